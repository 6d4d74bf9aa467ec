import PyProof.Rows.All
import Wide.All
import OpenK.AllK
import Wide.FinOn
import HandS.ForMost
import HandS.Exc
import HandS.ExcOwn
import HandS.TryOnly
import HandS.TryMany
import HandS.ExcInit
import HandS.WordsExc
import HandS.Walk
import HandS.IsInst
import HandS.Flow
import HandS.Lambda
import HandS.HeadHook1
import HandS.TupAny
import HandS.Style
import HandS.Wide
import HandS.Property
import HandS.Deep
import HandS.SortKw
import KE.SortKeyHeap
import HandS.Keys
import PyProof.P3In
import HandS.SetTxt0
import HandS.SetBool
import HandS.SetKeys
import HandS.More
import HandS.Small
import HandS.Head0
import HandS.Head1
import HandS.Head2
import HandS.ClsMeth
import HandS.ExcField
import HandS.Zip0
import PyProof.TupleOfGen
import HandS.SetFor
import HandS.DictComp
import PyProof.Rows.MinMaxN
import KE.KEqNest
import PyProof.NeKinds
import HandS.Strs
import PyProof.InstNe
import PyProof.EqKinds
import KE.KEqDict
import HandS.DictTup
import HandS.OwnEq
import HandS.NoneIn
import KE.KOpsOwn
import HandS.Conv
import KE.KCallOwn
import KE.KDictCopyH
import PySem.Challenge.RW_twochoosers_k03_wishes
set_option Elab.async false
set_option linter.all false
set_option maxRecDepth 100000
set_option maxHeartbeats 4000000
/-! Deep data over the hand layer: values as trees, mutable objects as cells, and readings that speak of no heap. -/
namespace DV
open PySem L2
inductive D where
  | non | bl (b : Bool) | int (i : Int) | str (x : Str) | ref (l : Nat) | cls (C : Addr)
  | scr (ns : List Int) | lst (xs : List D) | tup (xs : List D) | dct (kvs : List (Key × D)) | ins (C : Addr) (fs : List (Str × D))
abbrev Gam := List (Option D)
inductive Cell where
  | gone | lst (xs : List D) | dct (kvs : List (Key × D)) | ins (C : Addr) (fs : List (Str × D)) | orc (n : Nat × Bool) | exc (dd : Addr) (fs : List (Str × D))
abbrev Mu := List Cell
/-- the heap as it is looked at: Hb what is fixed for ever, H all, al the cells' addresses, ph the oracle's inner ones -/
structure Now where
  Hb : Hp
  H : Hp
  al : List Addr
  ph : List Addr
mutual
inductive Rep (K : PySem.W.Frag) (Hb : Hp) (al : List Addr) : V → D → Prop
  | non : Rep K Hb al .non .non
  | bl (b) : Rep K Hb al (.bl b) (.bl b)
  | int (i) : Rep K Hb al (.int i) (.int i)
  | str (x) : Rep K Hb al (.str x) (.str x)
  | ref {l a} : al[l]? = some a → Rep K Hb al (.ref a) (.ref l)
  | cls (C) : Rep K Hb al (.ref C) (.cls C)
  | scr {a ns} : SqL K Hb a (ns.map V.int) → Rep K Hb al (.ref a) (.scr ns)
  | lst {a vs ds} : Hb a = some (.lst vs) → Reps K Hb al vs ds → Rep K Hb al (.ref a) (.lst ds)
  | tup {a vs ds} : Hb a = some (.tup vs) → Reps K Hb al vs ds → Rep K Hb al (.ref a) (.tup ds)
  | dct {a us ks ds} : Rd Hb a (.dK us) → ks = us.map (·.1) → Reps K Hb al (us.map (·.2)) ds → Rep K Hb al (.ref a) (.dct (ks.zip ds))
  | ins {a C dx us ks ds} : Hb a = some (.ins C dx us) → ks = us.map (·.1) → Reps K Hb al (us.map (·.2)) ds → Rep K Hb al (.ref a) (.ins C (ks.zip ds))
inductive Reps (K : PySem.W.Frag) (Hb : Hp) (al : List Addr) : List V → List D → Prop
  | nil : Reps K Hb al [] []
  | cons {v d vs ds} : Rep K Hb al v d → Reps K Hb al vs ds → Reps K Hb al (v :: vs) (d :: ds)
end
theorem nn {α : Type} {x : Option α} {o : α} (h : x = some o) : x ≠ none := by rw [h]; simp
theorem same_rd {H H' : Hp} {a : Addr} {u : HO} (e : Same H H') (h : Rd H a u) : Rd H' a u := h.imp (fun h => e _ _ h) fun ⟨o, h⟩ => ⟨o, e _ _ h⟩
theorem rd_inj {H : Hp} {a : Addr} {us us' : List (Key × V)} (h : Rd H a (.dK us)) (h' : Rd H a (.dK us')) : us = us' := by
  rcases h with h | ⟨o, h⟩ <;> rcases h' with h' | ⟨o', h'⟩ <;> (rw [h] at h'; cases h' <;> rfl)
theorem pre_get {α : Type} {l l' : List α} (p : l <+: l') {i : Nat} {a : α} (h : l[i]? = some a) : l'[i]? = some a := by
  obtain ⟨t, rfl⟩ := p
  have hi : i < l.length := (List.getElem?_eq_some_iff.mp h).1
  rw [List.getElem?_append_left hi]
  exact h
section
variable {K : PySem.W.Frag} {Hb Hb' : Hp} {al al' : List Addr}
/-- what was fixed stays; a dict may have been locked -/
def SameL (H H' : Hp) : Prop := ∀ b o, H b = some o → H' b = some o ∨ ∃ us od, o = .dK us ∧ H' b = some (.frz od (.dK us))
theorem Same.l {H H' : Hp} (s : Same H H') : SameL H H' := fun b o h => .inl (s b o h)
theorem SameL.refl (H : Hp) : SameL H H := fun b o h => .inl h
theorem SameL.ne {H H' : Hp} (s : SameL H H') {b : Addr} {o : HO} (h : H b = some o) (hn : ∀ us, o ≠ .dK us) : H' b = some o := (s b o h).elim id fun ⟨us, _, e, _⟩ => absurd e (hn us)
theorem SameL.trans {H H' H'' : Hp} (s : SameL H H') (t : SameL H' H'') : SameL H H'' := fun b o h => by
  rcases s b o h with h1 | ⟨us, od, e1, h1⟩
  · exact t b o h1
  · exact .inr ⟨us, od, e1, t.ne h1 (fun _ z => nomatch z)⟩
theorem SameL.lst {H H' : Hp} (s : SameL H H') {b : Addr} {vs : List V} (h : H b = some (.lst vs)) : H' b = some (.lst vs) := s.ne h (fun _ z => nomatch z)
theorem SameL.tup {H H' : Hp} (s : SameL H H') {b : Addr} {vs : List V} (h : H b = some (.tup vs)) : H' b = some (.tup vs) := s.ne h (fun _ z => nomatch z)
theorem SameL.rd {H H' : Hp} {a : Addr} {us : List (Key × V)} (s : SameL H H') (h : Rd H a (.dK us)) : Rd H' a (.dK us) := by
  rcases h with h | ⟨o, h⟩
  · rcases s _ _ h with h | ⟨vs, od, e, h⟩
    · exact .inl h
    · cases e; exact .inr ⟨od, h⟩
  · exact .inr ⟨o, s.ne h (fun _ z => nomatch z)⟩
theorem SameL.seq {K : PySem.W.Frag} {H H' : Hp} (s : SameL H H') {a : Addr} {vs : List V} (h : SqL K H a vs) : SqL K H' a vs := by
  rcases h with (h | ⟨o, h⟩) | h
  · exact .inl (.inl (s.lst h))
  · exact .inl (.inr ⟨o, s.ne h (fun _ z => nomatch z)⟩)
  · exact .inr h
mutual
theorem Rep.monoL (s : SameL Hb Hb') (p : al <+: al') : ∀ {v : V} {d : D}, Rep K Hb al v d → Rep K Hb' al' v d
  | _, _, .non => .non
  | _, _, .bl b => .bl b
  | _, _, .int i => .int i
  | _, _, .str x => .str x
  | _, _, .ref h => .ref (pre_get p h)
  | _, _, .cls C => .cls C
  | _, _, .scr h => .scr (s.seq h)
  | _, _, .lst h r => .lst (s.lst h) (Reps.monoL s p r)
  | _, _, .tup h r => .tup (s.tup h) (Reps.monoL s p r)
  | _, _, .dct h e r => .dct (s.rd h) e (Reps.monoL s p r)
  | _, _, .ins h e r => .ins (s.ne h (fun _ z => nomatch z)) e (Reps.monoL s p r)
theorem Reps.monoL (s : SameL Hb Hb') (p : al <+: al') : ∀ {vs : List V} {ds : List D}, Reps K Hb al vs ds → Reps K Hb' al' vs ds
  | _, _, .nil => .nil
  | _, _, .cons h r => .cons (Rep.monoL s p h) (Reps.monoL s p r)
end
theorem Rep.mono (s : Same Hb Hb') (p : al <+: al') {v : V} {d : D} (h : Rep K Hb al v d) : Rep K Hb' al' v d := h.monoL (Same.l s) p
theorem Reps.mono (s : Same Hb Hb') (p : al <+: al') {vs : List V} {ds : List D} (h : Reps K Hb al vs ds) : Reps K Hb' al' vs ds := h.monoL (Same.l s) p
theorem Reps.length : ∀ {vs : List V} {ds : List D}, Reps K Hb al vs ds → vs.length = ds.length
  | _, _, .nil => rfl
  | _, _, .cons _ r => by simp [Reps.length r]
theorem Reps.get : ∀ {vs : List V} {ds : List D} {i : Nat} {d : D}, Reps K Hb al vs ds → ds[i]? = some d → ∃ v, vs[i]? = some v ∧ Rep K Hb al v d
  | _, _, _, _, .nil, e => by simp at e
  | _, _, 0, _, .cons h _, e => by simp at e; subst e; exact ⟨_, rfl, h⟩
  | _, _, i + 1, d, .cons _ t, e => by
    obtain ⟨u, h1, h2⟩ := Reps.get (i := i) (d := d) t (by simpa using e)
    exact ⟨u, by simpa using h1, h2⟩
theorem Reps.append : ∀ {vs us : List V} {ds es : List D}, Reps K Hb al vs ds → Reps K Hb al us es → Reps K Hb al (vs ++ us) (ds ++ es)
  | _, _, _, _, .nil, s => s
  | _, _, _, _, .cons h t, s => .cons h (Reps.append t s)
theorem Reps.set {v : V} {d : D} (h : Rep K Hb al v d) : ∀ {vs : List V} {ds : List D} (i : Nat), Reps K Hb al vs ds → Reps K Hb al (vs.set i v) (ds.set i d)
  | _, _, _, .nil => .nil
  | _, _, 0, .cons _ t => .cons h t
  | _, _, i + 1, .cons q t => .cons q (Reps.set h i t)
theorem Reps.take : ∀ {vs : List V} {ds : List D} (n : Nat), Reps K Hb al vs ds → Reps K Hb al (vs.take n) (ds.take n)
  | _, _, 0, _ => .nil
  | _, _, _ + 1, .nil => .nil
  | _, _, n + 1, .cons r t => .cons r (Reps.take n t)
theorem Reps.drop : ∀ {vs : List V} {ds : List D} (n : Nat), Reps K Hb al vs ds → Reps K Hb al (vs.drop n) (ds.drop n)
  | _, _, 0, r => r
  | _, _, _ + 1, .nil => .nil
  | _, _, n + 1, .cons _ t => Reps.drop n t
theorem Reps.reverse : ∀ {vs : List V} {ds : List D}, Reps K Hb al vs ds → Reps K Hb al vs.reverse ds.reverse
  | _, _, .nil => .nil
  | _, _, .cons h t => by
    rw [List.reverse_cons, List.reverse_cons]
    exact (Reps.reverse t).append (.cons h .nil)
theorem Reps.dropLast : ∀ {vs : List V} {ds : List D}, Reps K Hb al vs ds → Reps K Hb al vs.dropLast ds.dropLast := fun {vs ds} r => by
  rw [List.dropLast_eq_take, List.dropLast_eq_take, r.length]
  exact r.take _
theorem Reps.eraseIdx : ∀ {vs : List V} {ds : List D} (n : Nat), Reps K Hb al vs ds → Reps K Hb al (vs.eraseIdx n) (ds.eraseIdx n)
  | _, _, _, .nil => .nil
  | _, _, 0, .cons _ t => t
  | _, _, n + 1, .cons r t => .cons r (Reps.eraseIdx n t)
theorem Reps.ints : ∀ {vs : List V} (ns : List Int), Reps K Hb al vs (ns.map D.int) → vs = ns.map V.int
  | _, [], .nil => rfl
  | _, _ :: ns, .cons (.int _) t => by rw [List.map_cons, Reps.ints ns t]
theorem Reps.strs : ∀ {vs : List V} (ns : List Str), Reps K Hb al vs (ns.map D.str) → vs = ns.map V.str
  | _, [], .nil => rfl
  | _, _ :: ns, .cons (.str _) t => by rw [List.map_cons, Reps.strs ns t]
theorem reps_ints (ns : List Int) : Reps K Hb al (ns.map V.int) (ns.map D.int) := by
  induction ns with
  | nil => exact .nil
  | cons n ns ih => exact .cons (.int _) ih
theorem reps_strs (ns : List Str) : Reps K Hb al (ns.map V.str) (ns.map D.str) := by
  induction ns with
  | nil => exact .nil
  | cons n ns ih => exact .cons (.str _) ih
end
/-- the oracle of a law: a list of three, the first a list of ints, the second a list of ints or a place, the third a count -/
def OrcAt (H : Hp) (a : Addr) (ph : List Addr) (n : Nat × Bool) : Prop :=
  ∃ (a0 : Addr) (xs : List Int) (y : V) (k : Int), H a = some (.lst [.ref a0, y, .int k]) ∧ H a0 = some (.lst (xs.map .int)) ∧ xs.length ≤ 100 ∧ 0 ≤ k ∧ k + n.1 ≤ 1099511627776 ∧
    ((n.2 = true ∧ ∃ a1 ys, y = .ref a1 ∧ ph = [a0, a1] ∧ a1 ≠ a0 ∧ (∀ x ∈ xs, 0 ≤ x) ∧ H a1 = some (.lst (ys.map V.int)) ∧ ys ≠ [] ∧ ys.length ≤ 100) ∨
     (n.2 = false ∧ ∃ j : Int, y = .int j ∧ ph = [a0] ∧ 0 ≤ j ∧ j + n.1 ≤ 1099511627776))
def CellAt (K : PySem.W.Frag) (n : Now) (a : Addr) : Cell → Prop
  | .gone => True
  | .lst ds => n.Hb a = none ∧ ∃ vs, n.H a = some (.lst vs) ∧ Reps K n.Hb n.al vs ds
  | .dct kvs => n.Hb a = none ∧ ∃ us, n.H a = some (.dK us) ∧ kvs.map (·.1) = us.map (·.1) ∧ Reps K n.Hb n.al (us.map (·.2)) (kvs.map (·.2))
  | .ins C fs => n.Hb a = none ∧ ∃ dx us, n.H a = some (.ins C dx us) ∧ fs.map (·.1) = us.map (·.1) ∧ Reps K n.Hb n.al (us.map (·.2)) (fs.map (·.2))
  | .orc k => n.Hb a = none ∧ OrcAt n.H a n.ph k
  | .exc dd fs => n.Hb a = none ∧ a = dd ∧ ∃ us, n.H a = some (.xd us) ∧ (∀ f, us.lookup f = none ↔ fs.lookup f = none) ∧ ∀ f v, us.lookup f = some v → ∃ d, fs.lookup f = some d ∧ Rep K n.Hb n.al v d
structure SR0 (K : PySem.W.Frag) (n : Now) (μ : Mu) : Prop where
  same : Same n.Hb n.H
  len : n.al.length = μ.length
  nd : n.al.Nodup
  cell : ∀ (i : Nat) a c, n.al[i]? = some a → μ[i]? = some c → CellAt K n a c
  alh : ∀ a ∈ n.al, n.H a ≠ none
  orc1 : ∀ (i j : Nat) a b, μ[i]? = some (.orc a) → μ[j]? = some (.orc b) → i = j
  phb : ∀ b ∈ n.ph, n.Hb b = none ∧ b ∉ n.al ∧ n.H b ≠ none
structure Step (n n' : Now) : Prop where
  same : SameL n.Hb n'.Hb
  pre : n.al <+: n'.al
  newb : ∀ b o, n'.Hb b = some o → n.Hb b ≠ none ∨ n.H b = none ∨ b ∈ n.al
  newa : ∀ b ∈ n'.al, b ∈ n.al ∨ n.H b = none
  newp : ∀ b ∈ n'.ph, b ∈ n.ph ∨ n.H b = none
  keep : ∀ b o, n.H b = some o → n.Hb b = none → b ∉ n.al → b ∉ n.ph → n'.H b = some o
  dom : ∀ b, n'.H b = none → n.H b = none
theorem Step.refl (n : Now) : Step n n := ⟨SameL.refl _, List.prefix_refl _, fun _ _ h => .inl (by rw [h]; simp), fun _ h => .inl h, fun _ h => .inl h, fun _ _ h _ _ _ => h, fun _ h => h⟩
theorem Step.trans {n n1 n2 : Now} (a : Step n n1) (b : Step n1 n2) : Step n n2 where
  same := a.same.trans b.same
  pre := a.pre.trans b.pre
  newb := fun c o h => by
    rcases b.newb c o h with h | h | h
    · cases e : n1.Hb c with
      | none => exact absurd e h
      | some o' => exact a.newb c o' e
    · exact .inr (.inl (a.dom c h))
    · rcases a.newa c h with h | h
      · exact .inr (.inr h)
      · exact .inr (.inl h)
  newa := fun c h => by
    rcases b.newa c h with h | h
    · exact a.newa c h
    · exact .inr (a.dom c h)
  newp := fun c h => by
    rcases b.newp c h with h | h
    · exact a.newp c h
    · exact .inr (a.dom c h)
  keep := fun c o h h0 h1 h2 => by
    refine b.keep c o (a.keep c o h h0 h1 h2) ?_ (fun z => ?_) (fun z => ?_)
    · cases e : n1.Hb c with
      | none => rfl
      | some o' =>
        rcases a.newb c o' e with z | z | z
        · exact absurd h0 z
        · rw [z] at h; cases h
        · exact absurd z h1
    · rcases a.newa c z with z | z
      · exact h1 z
      · rw [z] at h; cases h
    · rcases a.newp c z with z | z
      · exact h2 z
      · rw [z] at h; cases h
  dom := fun c h => a.dom c (b.dom c h)
theorem Step.rep {K : PySem.W.Frag} {n n' : Now} (s : Step n n') {v : V} {d : D} (h : Rep K n.Hb n.al v d) : Rep K n'.Hb n'.al v d := h.monoL s.same s.pre
theorem Step.reps {K : PySem.W.Frag} {n n' : Now} (s : Step n n') {v : List V} {d : List D} (h : Reps K n.Hb n.al v d) : Reps K n'.Hb n'.al v d := h.monoL s.same s.pre
/-- the slots -/
structure GR (K : PySem.W.Frag) (n : Now) (Γ : Gam) (σ : St) : Prop where
  len : Γ.length = σ.length
  at_ : ∀ (i : Nat) d, Γ[i]? = some (some d) → ∃ v, σ[i]? = some (some v) ∧ Rep K n.Hb n.al v d
theorem GR.step {K : PySem.W.Frag} {n n' : Now} {Γ : Gam} {σ : St} (g : GR K n Γ σ) (s : Step n n') : GR K n' Γ σ :=
  ⟨g.len, fun i d h => let ⟨v, h1, h2⟩ := g.at_ i d h; ⟨v, h1, s.rep h2⟩⟩
theorem GR.set {K : PySem.W.Frag} {n : Now} {Γ : Gam} {σ : St} (g : GR K n Γ σ) {v : V} {d : D} (r : Rep K n.Hb n.al v d) (i : Nat) : GR K n (Γ.set i (some d)) (σ.set i (some v)) := by
  refine ⟨by simp [g.len], fun j e h => ?_⟩
  by_cases hj : i = j
  · subst hj
    by_cases hl : i < Γ.length
    · rw [List.getElem?_set_self hl] at h
      cases h
      exact ⟨v, by rw [List.getElem?_set_self (by rw [← g.len]; exact hl)], r⟩
    · rw [List.getElem?_eq_none (by simp; omega)] at h; cases h
  · rw [List.getElem?_set_ne hj] at h ⊢
    exact g.at_ j e h
/-- the program's errors -/
inductive EK where
  | BadName | DuplicateName | UnknownName | BadCount | BadText | BadSet | BadCell | BadSide | BadLine | BadWish | UnlikeOutcomes | IsFirm | IsSmooth | NotFirm | NothingToUndo
  deriving DecidableEq
def EK.nm : EK → Str
  | .BadName => "BadName"
  | .DuplicateName => "DuplicateName"
  | .UnknownName => "UnknownName"
  | .BadCount => "BadCount"
  | .BadText => "BadText"
  | .BadSet => "BadSet"
  | .BadCell => "BadCell"
  | .BadSide => "BadSide"
  | .BadLine => "BadLine"
  | .BadWish => "BadWish"
  | .UnlikeOutcomes => "UnlikeOutcomes"
  | .IsFirm => "IsFirm"
  | .IsSmooth => "IsSmooth"
  | .NotFirm => "NotFirm"
  | .NothingToUndo => "NothingToUndo"
/-- an exception: its class and its own fields -/
structure Exn where
  k : EK
  fs : List (Str × D)
def ExR (K : PySem.W.Frag) (A n : Now) (cls : Value) (dd : Option Addr) (x : Exn) : Prop :=
  cls = .ref (He.ga K x.k.nm) ∧ ((dd = none ∧ x.fs = []) ∨ ∃ a us, dd = some a ∧ A.H a = none ∧ (n.Hb a = none ∧ a ∉ n.al ∧ a ∉ n.ph) ∧ n.H a = some (.xd us) ∧ (∀ f, us.lookup f = none ↔ x.fs.lookup f = none) ∧ ∀ f v, us.lookup f = some v → ∃ d, x.fs.lookup f = some d ∧ Rep K n.Hb n.al v d)
theorem ExR.anchor {K : PySem.W.Frag} {A A' n : Now} {cls : Value} {dd : Option Addr} {x : Exn} (h : ExR K A' n cls dd x) (s : Step A A') : ExR K A n cls dd x :=
  ⟨h.1, h.2.imp id fun ⟨a, us, h1, h2, h3⟩ => ⟨a, us, h1, s.dom a h2, h3⟩⟩
abbrev DTE := Gam → Mu → (D → Mu → Prop) → (Exn → Mu → Prop) → Prop
abbrev DTT := Gam → Mu → (Bool → Mu → Prop) → (Exn → Mu → Prop) → Prop
abbrev DTA := Gam → Mu → (List D → Mu → Prop) → (Exn → Mu → Prop) → Prop
structure DEnds where
  nx : Gam → Mu → Prop
  rt : D → Mu → Prop
  bk : Gam → Mu → Prop := fun _ _ => False
  ct : Gam → Mu → Prop := fun _ _ => False
  ex : Exn → Gam → Mu → Prop
abbrev DTS := DEnds → Gam → Mu → Prop
abbrev DSp := List D → Mu → (D → Mu → Prop) → (Exn → Mu → Prop) → Prop
section
variable (K : PySem.W.Frag) (W : WX)
/-- how what is wanted of an exception at the deep level reaches the layer's wish -/
def XLink (n : Now) (Γ : Gam) (σ : St) (Ed : Exn → Mu → Prop) : Prop := ∀ n' cls dd x μ', Step n n' → SR0 K n' μ' → ExR K n n' cls dd x → Ed x μ' → W cls dd σ n'.H
def lift (f : DTE) : TE := fun σ H Q => ∃ n Γ μ Qd Ed, n.H = H ∧ SR0 K n μ ∧ GR K n Γ σ ∧ f Γ μ Qd Ed ∧
  (∀ n' v d μ', Step n n' → SR0 K n' μ' → Rep K n'.Hb n'.al v d → Qd d μ' → Q v n'.H) ∧ XLink K W n Γ σ Ed
def liftT (f : DTT) : TT := fun σ H Q => ∃ n Γ μ Qd Ed, n.H = H ∧ SR0 K n μ ∧ GR K n Γ σ ∧ f Γ μ Qd Ed ∧
  (∀ n' b μ', Step n n' → SR0 K n' μ' → Qd b μ' → Q b n'.H) ∧ XLink K W n Γ σ Ed
def liftA (f : DTA) : TA := fun σ H Q => ∃ n Γ μ Qd Ed, n.H = H ∧ SR0 K n μ ∧ GR K n Γ σ ∧ f Γ μ Qd Ed ∧
  (∀ n' v d μ', Step n n' → SR0 K n' μ' → Reps K n'.Hb n'.al v d → Qd d μ' → Q v n'.H) ∧ XLink K W n Γ σ Ed
structure Links (A : Now) (Dd : DEnds) (Dn : Ends) : Prop where
  nx : ∀ n Γ σ μ, Step A n → SR0 K n μ → GR K n Γ σ → Dd.nx Γ μ → Dn.nx σ n.H
  bk : ∀ n Γ σ μ, Step A n → SR0 K n μ → GR K n Γ σ → Dd.bk Γ μ → Dn.bk σ n.H
  ct : ∀ n Γ σ μ, Step A n → SR0 K n μ → GR K n Γ σ → Dd.ct Γ μ → Dn.ct σ n.H
  rt : ∀ n v d μ, Step A n → SR0 K n μ → Rep K n.Hb n.al v d → Dd.rt d μ → Dn.rt v n.H
  ex : ∀ n Γ σ μ cls dd x, Step A n → SR0 K n μ → GR K n Γ σ → ExR K A n cls dd x → Dd.ex x Γ μ → W cls dd σ n.H
def liftS (T : DTS) : TS := fun Dn σ H => ∃ A n Γ μ Dd, n.H = H ∧ Step A n ∧ SR0 K n μ ∧ GR K n Γ σ ∧ T Dd Γ μ ∧ Links K W A Dd Dn
end
abbrev DE (X : Cx) (W : WX) (e : Expr) (f : DTE) : Prop := PE X e (lift X.K W f)
abbrev DT (X : Cx) (W : WX) (e : Expr) (f : DTT) : Prop := PT X e (liftT X.K W f)
abbrev DA (X : Cx) (W : WX) (es : List Expr) (f : DTA) : Prop := PA X es (liftA X.K W f)
abbrev DS (X : Cx) (W : WX) (st : Stmt) (T : DTS) : Prop := PS X st (liftS X.K W T)
abbrev DSs (X : Cx) (W : WX) (st : List Stmt) (T : DTS) : Prop := PSs X st (liftS X.K W T)
section
variable {X : Cx} {e : Expr} {es : List Expr} {st : Stmt} {sts : List Stmt}
theorem PE.imp {t t' : TE} (h : PE X e t) (hi : ∀ σ H Q, t' σ H Q → t σ H Q) : PE X e t' := ⟨fun pins s σ H Q I q => h.run pins s σ H Q I (hi _ _ _ q)⟩
theorem PT.imp {t t' : TT} (h : PT X e t) (hi : ∀ σ H Q, t' σ H Q → t σ H Q) : PT X e t' := ⟨fun pins s σ H Q I q => h.run pins s σ H Q I (hi _ _ _ q)⟩
theorem PA.imp {t t' : TA} (h : PA X es t) (hi : ∀ σ H Q, t' σ H Q → t σ H Q) : PA X es t' := ⟨fun pos pins s σ H Q I q => h.run pos pins s σ H Q I (hi _ _ _ q)⟩
theorem PS.imp {t t' : TS} (h : PS X st t) (hi : ∀ Dn σ H, t' Dn σ H → t Dn σ H) : PS X st t' := ⟨fun pins s σ H Q I q => h.run pins s σ H Q I (hi _ _ _ q)⟩
theorem PSs.imp {t t' : TS} (h : PSs X sts t) (hi : ∀ Dn σ H, t' Dn σ H → t Dn σ H) : PSs X sts t' := ⟨fun pins s σ H Q I q => h.run pins s σ H Q I (hi _ _ _ q)⟩
end
theorem XLink.step {K : PySem.W.Frag} {W : WX} {n n' : Now} {Γ : Gam} {σ : St} {Ed : Exn → Mu → Prop} (x : XLink K W n Γ σ Ed) (s : Step n n') : XLink K W n' Γ σ Ed :=
  fun n2 cls dd y μ s2 h1 h2 h3 => x n2 cls dd y μ (s.trans s2) h1 (h2.anchor s) h3
end DV
namespace DV
open PySem L2
section
variable {K : PySem.W.Frag} {n n' : Now} {μ : Mu} {a p : Addr} {o : HO}
theorem OrcAt.grow {H H' : Hp} {a : Addr} {ph : List Addr} {k : Nat × Bool} (h : OrcAt H a ph k) (ha : H' a = H a) (hp : ∀ b ∈ ph, H' b = H b) : OrcAt H' a ph k := by
  obtain ⟨a0, xs, y, j, h1, h2, hl, hj, hk, hc⟩ := h
  rcases hc with ⟨hv, a1, ys, e1, e2, e3, e4, e5, e6, e7⟩ | ⟨hv, i, e1, e2, e3, e4⟩
  · subst e2
    exact ⟨a0, xs, y, j, ha.trans h1, (hp a0 (by simp)).trans h2, hl, hj, hk, .inl ⟨hv, a1, ys, e1, rfl, e3, e4, (hp a1 (by simp)).trans e5, e6, e7⟩⟩
  · subst e2
    exact ⟨a0, xs, y, j, ha.trans h1, (hp a0 (by simp)).trans h2, hl, hj, hk, .inr ⟨hv, i, e1, rfl, e3, e4⟩⟩
theorem CellAt.grow {c : Cell} (h : CellAt K n a c) (ha : n'.H a = n.H a) (hb : n.Hb a = none → n'.Hb a = none) (s : Same n.Hb n'.Hb) (pr : n.al <+: n'.al) (hph : n'.ph = n.ph) (hp : ∀ b ∈ n.ph, n'.H b = n.H b) : CellAt K n' a c := by
  cases c with
  | gone => trivial
  | lst ds => obtain ⟨h0, vs, h1, h2⟩ := h; exact ⟨hb h0, vs, ha.trans h1, h2.mono s pr⟩
  | dct kvs => obtain ⟨h0, vs, h1, h2, h3⟩ := h; exact ⟨hb h0, vs, ha.trans h1, h2, h3.mono s pr⟩
  | ins C fs => obtain ⟨h0, dx, vs, h1, h2, h3⟩ := h; exact ⟨hb h0, dx, vs, ha.trans h1, h2, h3.mono s pr⟩
  | orc k => obtain ⟨h0, h1⟩ := h; exact ⟨hb h0, by rw [hph]; exact h1.grow ha hp⟩
  | exc dd fs => obtain ⟨h0, he, us, h1, h2, h3⟩ := h; exact ⟨hb h0, he, us, ha.trans h1, h2, fun f v e => let ⟨d, e1, e2⟩ := h3 f v e; ⟨d, e1, e2.mono s pr⟩⟩
theorem SR0.hb (s : SR0 K n μ) (h : n.H p = none) : n.Hb p = none := s.same.free h
theorem SR0.nal (s : SR0 K n μ) (h : n.H p = none) : p ∉ n.al := fun z => s.alh p z h
theorem SR0.nph (s : SR0 K n μ) (h : n.H p = none) : p ∉ n.ph := fun z => (s.phb p z).2.2 h
/-- a new object, fixed for ever -/
def Now.fix (n : Now) (p : Addr) (o : HO) : Now := ⟨upd n.Hb p o, upd n.H p o, n.al, n.ph⟩
/-- a new object beside -/
def Now.more (n : Now) (p : Addr) (o : HO) : Now := ⟨n.Hb, upd n.H p o, n.al, n.ph⟩
/-- a new cell -/
def Now.cell (n : Now) (p : Addr) (o : HO) : Now := ⟨n.Hb, upd n.H p o, n.al ++ [p], n.ph⟩
theorem same_upd {H : Hp} (h : H p = none) : Same H (upd H p o) := fun b u e => by rw [upd_ne (ne_of_none e h)]; exact e
theorem same_upd2 {H H' : Hp} (s : Same H H') : Same (upd H p o) (upd H' p o) := fun b u e => by
  by_cases hb : b = p
  · subst hb; rw [upd_same] at e ⊢; exact e
  · rw [upd_ne hb] at e ⊢; exact s _ _ e
theorem SR0.fix (s : SR0 K n μ) (h : n.H p = none) : SR0 K (n.fix p o) μ := by
  have hb := s.hb h
  refine ⟨same_upd2 s.same, s.len, s.nd, fun i a c e1 e2 => ?_, fun a ha => ?_, s.orc1, fun b hb' => ?_⟩
  · have hne : a ≠ p := fun z => s.nal h (z ▸ List.mem_of_getElem? e1)
    exact (s.cell i a c e1 e2).grow (n' := n.fix p o) (upd_ne hne) (fun z => (upd_ne hne).trans z) (same_upd hb) (List.prefix_refl _) rfl fun b hb' => upd_ne fun z => s.nph h (z ▸ hb')
  · have hne : a ≠ p := fun z => s.nal h (z ▸ ha)
    show upd n.H p o a ≠ none
    rw [upd_ne hne]; exact s.alh a ha
  · have hne : b ≠ p := fun z => s.nph h (z ▸ hb')
    obtain ⟨h1, h2, h3⟩ := s.phb b hb'
    exact ⟨(upd_ne hne).trans h1, h2, by show upd n.H p o b ≠ none; rw [upd_ne hne]; exact h3⟩
theorem Step.fix (s : SR0 K n μ) (h : n.H p = none) : Step n (n.fix p o) where
  same := Same.l (same_upd (s.hb h))
  pre := List.prefix_refl _
  newb := fun b u e => by
    by_cases hb : b = p
    · subst hb; exact .inr (.inl h)
    · exact .inl (nn (o := u) (by rw [← e]; exact (upd_ne hb).symm))
  newa := fun b h => .inl h
  newp := fun b h => .inl h
  keep := fun b u e _ _ _ => by show upd n.H p o b = _; rw [upd_ne (ne_of_none e h)]; exact e
  dom := fun b e => by
    by_cases hb : b = p
    · subst hb; exact h
    · rw [← e]; exact (upd_ne hb).symm
theorem SR0.more (s : SR0 K n μ) (h : n.H p = none) : SR0 K (n.more p o) μ := by
  refine ⟨s.same.trans (same_upd h), s.len, s.nd, fun i a c e1 e2 => ?_, fun a ha => ?_, s.orc1, fun b hb' => ?_⟩
  · have hne : a ≠ p := fun z => s.nal h (z ▸ List.mem_of_getElem? e1)
    exact (s.cell i a c e1 e2).grow (n' := n.more p o) (upd_ne hne) (fun z => z) (Same.refl _) (List.prefix_refl _) rfl fun b hb' => upd_ne fun z => s.nph h (z ▸ hb')
  · have hne : a ≠ p := fun z => s.nal h (z ▸ ha)
    show upd n.H p o a ≠ none
    rw [upd_ne hne]; exact s.alh a ha
  · have hne : b ≠ p := fun z => s.nph h (z ▸ hb')
    obtain ⟨h1, h2, h3⟩ := s.phb b hb'
    exact ⟨h1, h2, by show upd n.H p o b ≠ none; rw [upd_ne hne]; exact h3⟩
theorem Step.more (h : n.H p = none) : Step n (n.more p o) where
  same := SameL.refl _
  pre := List.prefix_refl _
  newb := fun b u e => .inl (nn e)
  newa := fun b h => .inl h
  newp := fun b h => .inl h
  keep := fun b u e _ _ _ => by show upd n.H p o b = _; rw [upd_ne (ne_of_none e h)]; exact e
  dom := fun b e => by
    by_cases hb : b = p
    · subst hb; exact h
    · rw [← e]; exact (upd_ne hb).symm
theorem Step.cell (h : n.H p = none) : Step n (n.cell p o) where
  same := SameL.refl _
  pre := List.prefix_append _ _
  newb := fun b u e => .inl (nn e)
  newa := fun b hb => by
    rcases List.mem_append.mp hb with z | z
    · exact .inl z
    · rw [List.mem_singleton.mp z]; exact .inr h
  newp := fun b h => .inl h
  keep := fun b u e _ _ _ => by show upd n.H p o b = _; rw [upd_ne (ne_of_none e h)]; exact e
  dom := fun b e => by
    by_cases hb : b = p
    · subst hb; exact h
    · rw [← e]; exact (upd_ne hb).symm
theorem SR0.cellN (s : SR0 K n μ) (h : n.H p = none) {c : Cell} (hc : CellAt K (n.cell p o) p c) (ho : ∀ k, c ≠ .orc k) : SR0 K (n.cell p o) (μ ++ [c]) := by
  refine ⟨s.same.trans (same_upd h), by show (n.al ++ [p]).length = _; simp [s.len], ?_, fun i a d e1 e2 => ?_, fun a ha => ?_, fun i j x y e1 e2 => ?_, fun b hb' => ?_⟩
  · show (n.al ++ [p]).Nodup
    rw [List.nodup_append]
    exact ⟨s.nd, by simp, fun a ha b hb z => by rw [List.mem_singleton.mp hb] at z; exact s.nal h (z ▸ ha)⟩
  · have e1' : (n.al ++ [p])[i]? = some a := e1
    by_cases hi : i < n.al.length
    · rw [List.getElem?_append_left hi] at e1'
      rw [List.getElem?_append_left (by rw [← s.len]; exact hi)] at e2
      have hne : a ≠ p := fun z => s.nal h (z ▸ List.mem_of_getElem? e1')
      exact (s.cell i a d e1' e2).grow (n' := n.cell p o) (upd_ne hne) (fun z => z) (Same.refl _) (List.prefix_append _ _) rfl fun b hb' => upd_ne fun z => s.nph h (z ▸ hb')
    · rw [List.getElem?_append_right (by omega)] at e1'
      rw [List.getElem?_append_right (by rw [← s.len]; omega), ← s.len] at e2
      have hz : i - n.al.length = 0 := by
        have := (List.getElem?_eq_some_iff.mp e1').1
        simp at this; omega
      rw [hz] at e1' e2
      simp at e1' e2
      subst e1'; subst e2
      exact hc
  · rcases List.mem_append.mp ha with z | z
    · have hne : a ≠ p := fun y => s.nal h (y ▸ z)
      show upd n.H p o a ≠ none
      rw [upd_ne hne]; exact s.alh a z
    · rw [List.mem_singleton.mp z]
      show upd n.H p o p ≠ none
      rw [upd_same]; simp
  · have q : ∀ (i : Nat) x, (μ ++ [c])[i]? = some (.orc x) → μ[i]? = some (.orc x) := fun i x e => by
      by_cases hi : i < μ.length
      · rw [List.getElem?_append_left hi] at e; exact e
      · rw [List.getElem?_append_right (by omega)] at e
        have hz : i - μ.length = 0 := by
          have := (List.getElem?_eq_some_iff.mp e).1
          simp at this; omega
        rw [hz] at e; simp at e
        exact absurd e (ho x)
    exact s.orc1 i j x y (q i x e1) (q j y e2)
  · have hne : b ≠ p := fun z => s.nph h (z ▸ hb')
    obtain ⟨h1, h2, h3⟩ := s.phb b hb'
    refine ⟨h1, fun z => ?_, by show upd n.H p o b ≠ none; rw [upd_ne hne]; exact h3⟩
    rcases List.mem_append.mp z with z | z
    · exact h2 z
    · exact hne (List.mem_singleton.mp z)
theorem nodup_get {l : List Addr} (h : l.Nodup) {i j : Nat} {a : Addr} (h1 : l[i]? = some a) (h2 : l[j]? = some a) : i = j := by
  obtain ⟨p1, q1⟩ := List.getElem?_eq_some_iff.mp h1
  obtain ⟨p2, q2⟩ := List.getElem?_eq_some_iff.mp h2
  exact (List.getElem_inj h).mp (q1.trans q2.symm)
/-- a cell is written -/
theorem SR0.write (s : SR0 K n μ) {i : Nat} (hi : n.al[i]? = some a) (hb : n.Hb a = none) {c : Cell} (hc : CellAt K (n.more a o) a c) (ho : ∀ k, c ≠ .orc k) : SR0 K (n.more a o) (μ.set i c) := by
  refine ⟨fun b u e => ?_, by rw [List.length_set]; exact s.len, s.nd, fun j b d e1 e2 => ?_, fun b ha => ?_, fun j k x y e1 e2 => ?_, fun b hb' => ?_⟩
  · show upd n.H a o b = _
    rw [upd_ne (ne_of_none e hb)]; exact s.same _ _ e
  · have e1' : n.al[j]? = some b := e1
    by_cases hj : i = j
    · subst hj
      rw [hi] at e1'; cases e1'
      have hl : i < μ.length := by rw [← s.len]; exact (List.getElem?_eq_some_iff.mp hi).1
      rw [List.getElem?_set_self hl] at e2; cases e2
      exact hc
    · rw [List.getElem?_set_ne hj] at e2
      have hne : b ≠ a := fun z => hj (nodup_get s.nd hi (z ▸ e1'))
      exact (s.cell j b d e1' e2).grow (n' := n.more a o) (upd_ne hne) (fun z => z) (Same.refl _) (List.prefix_refl _) rfl fun b hb' => upd_ne fun z => (s.phb b hb').2.1 (z ▸ List.mem_of_getElem? hi)
  · show upd n.H a o b ≠ none
    by_cases hne : b = a
    · subst hne; rw [upd_same]; simp
    · rw [upd_ne hne]; exact s.alh b ha
  · have q : ∀ (j : Nat) x, (μ.set i c)[j]? = some (.orc x) → μ[j]? = some (.orc x) := fun j x e => by
      by_cases hj : i = j
      · subst hj
        have hl : i < μ.length := by rw [← s.len]; exact (List.getElem?_eq_some_iff.mp hi).1
        rw [List.getElem?_set_self hl] at e; cases e
        exact absurd rfl (ho x)
      · rw [List.getElem?_set_ne hj] at e; exact e
    exact s.orc1 j k x y (q j x e1) (q k y e2)
  · obtain ⟨h1, h2, h3⟩ := s.phb b hb'
    have hne : b ≠ a := fun z => h2 (z ▸ List.mem_of_getElem? hi)
    exact ⟨h1, h2, by show upd n.H a o b ≠ none; rw [upd_ne hne]; exact h3⟩
theorem Step.write {i : Nat} (hi : n.al[i]? = some a) : Step n (n.more a o) where
  same := SameL.refl _
  pre := List.prefix_refl _
  newb := fun b u e => .inl (nn e)
  newa := fun b h => .inl h
  newp := fun b h => .inl h
  keep := fun b u e _ h1 _ => by
    show upd n.H a o b = _
    rw [upd_ne (show b ≠ a from fun z => h1 (z ▸ List.mem_of_getElem? hi))]; exact e
  dom := fun b e => by
    by_cases hb : b = a
    · subst hb; rw [show (n.more b o).H b = some o from upd_same] at e; cases e
    · rw [← e]; exact (upd_ne hb).symm
end
/-! ### what is seen of a value: fixed, or the cell as it stands -/
def lk (μ : Mu) : D → D
  | .ref l => match μ[l]? with
    | some (.lst xs) => .lst xs
    | some (.dct k) => .dct k
    | some (.ins C fs) => .ins C fs
    | _ => .ref l
  | d => d
section
variable {K : PySem.W.Frag} {n : Now} {μ : Mu} {v : V} {d : D}
theorem lk_ref {l : Nat} {e : D} (h : lk μ (.ref l) = e) (hne : e ≠ .ref l) : (∃ xs, μ[l]? = some (.lst xs) ∧ e = .lst xs) ∨ (∃ xs, μ[l]? = some (.dct xs) ∧ e = .dct xs) ∨ ∃ C fs, μ[l]? = some (.ins C fs) ∧ e = .ins C fs := by
  unfold lk at h
  dsimp only at h
  split at h
  · exact .inl ⟨_, by assumption, h.symm⟩
  · exact .inr (.inl ⟨_, by assumption, h.symm⟩)
  · exact .inr (.inr ⟨_, _, by assumption, h.symm⟩)
  · exact absurd h.symm hne
theorem see_lst {ds : List D} (s : SR0 K n μ) (r : Rep K n.Hb n.al v d) (h : lk μ d = .lst ds) : ∃ a vs, v = .ref a ∧ n.H a = some (.lst vs) ∧ Reps K n.Hb n.al vs ds := by
  cases r with
  | ref hl =>
    rcases lk_ref h (by simp) with ⟨xs, e, q⟩ | ⟨xs, e, q⟩ | ⟨C, fs, e, q⟩
    · cases q
      obtain ⟨_, vs, h1, h2⟩ := s.cell _ _ _ hl e
      exact ⟨_, vs, rfl, h1, h2⟩
    · cases q
    · cases q
  | lst hq hr => cases h; exact ⟨_, _, rfl, s.same _ _ hq, hr⟩
  | _ => cases h
theorem see_tup {ds : List D} (s : SR0 K n μ) (r : Rep K n.Hb n.al v d) (h : lk μ d = .tup ds) : ∃ a vs, v = .ref a ∧ n.H a = some (.tup vs) ∧ n.Hb a = some (.tup vs) ∧ Reps K n.Hb n.al vs ds := by
  cases r with
  | ref hl => rcases lk_ref h (by simp) with ⟨xs, e, q⟩ | ⟨xs, e, q⟩ | ⟨C, fs, e, q⟩ <;> cases q
  | tup hq hr => cases h; exact ⟨_, _, rfl, s.same _ _ hq, hq, hr⟩
  | _ => cases h
theorem see_dct {kvs : List (Key × D)} (s : SR0 K n μ) (r : Rep K n.Hb n.al v d) (h : lk μ d = .dct kvs) : ∃ a us, v = .ref a ∧ Rd n.H a (.dK us) ∧ kvs.map (·.1) = us.map (·.1) ∧ Reps K n.Hb n.al (us.map (·.2)) (kvs.map (·.2)) := by
  cases r with
  | ref hl =>
    rcases lk_ref h (by simp) with ⟨xs, e, q⟩ | ⟨xs, e, q⟩ | ⟨C, fs, e, q⟩
    · cases q
    · cases q
      obtain ⟨_, vs, h1, h2, h3⟩ := s.cell _ _ _ hl e
      exact ⟨_, vs, rfl, .inl h1, h2, h3⟩
    · cases q
  | dct hq hk hr =>
    cases h
    subst hk
    have hl := hr.length
    rw [List.length_map] at hl
    rw [List.map_fst_zip (by rw [List.length_map]; omega), List.map_snd_zip (by rw [List.length_map]; omega)]
    exact ⟨_, _, rfl, same_rd s.same hq, rfl, hr⟩
  | _ => cases h
theorem see_ins {C : Addr} {fs : List (Str × D)} (s : SR0 K n μ) (r : Rep K n.Hb n.al v d) (h : lk μ d = .ins C fs) : ∃ a dx us, v = .ref a ∧ n.H a = some (.ins C dx us) ∧ fs.map (·.1) = us.map (·.1) ∧ Reps K n.Hb n.al (us.map (·.2)) (fs.map (·.2)) := by
  cases r with
  | ref hl =>
    rcases lk_ref h (by simp) with ⟨xs, e, q⟩ | ⟨xs, e, q⟩ | ⟨C, fs, e, q⟩
    · cases q
    · cases q
    · cases q
      obtain ⟨_, dx, vs, h1, h2, h3⟩ := s.cell _ _ _ hl e
      exact ⟨_, dx, vs, rfl, h1, h2, h3⟩
  | ins hq hk hr =>
    cases h
    subst hk
    have hl := hr.length
    rw [List.length_map] at hl
    rw [List.map_fst_zip (by rw [List.length_map]; omega), List.map_snd_zip (by rw [List.length_map]; omega)]
    exact ⟨_, _, _, rfl, s.same _ _ hq, rfl, hr⟩
  | _ => cases h
end
end DV
namespace DV
open PySem L2
def dVar (i : Nat) : DTE := fun Γ μ Q _ => match Γ[i]? with
  | some (some d) => Q d μ
  | _ => False
def dC (d : D) : DTE := fun _ μ Q _ => Q d μ
def LV (K : PySem.W.Frag) (n : Now) (Qd : D → Mu → Prop) (Q : VK) : Prop := ∀ n' v d μ', Step n n' → SR0 K n' μ' → Rep K n'.Hb n'.al v d → Qd d μ' → Q v n'.H
theorem LV.now {K : PySem.W.Frag} {n : Now} {Qd : D → Mu → Prop} {Q : VK} (l : LV K n Qd Q) {μ : Mu} (s : SR0 K n μ) {v : V} {d : D} (r : Rep K n.Hb n.al v d) (q : Qd d μ) : Q v n.H := l n v d μ (Step.refl n) s r q
theorem LV.step {K : PySem.W.Frag} {n n' : Now} {Qd : D → Mu → Prop} {Q : VK} (l : LV K n Qd Q) (s : Step n n') : LV K n' Qd Q := fun n2 v d μ s2 => l n2 v d μ (s.trans s2)
/-- a new object, fixed -/
theorem LV.fixed {K : PySem.W.Frag} {n : Now} {Qd : D → Mu → Prop} {Q : VK} (l : LV K n Qd Q) {μ : Mu} (s : SR0 K n μ) {p : Addr} {o : HO} {d : D} (hp : n.H p = none) (r : Rep K (upd n.Hb p o) n.al (.ref p) d) (q : Qd d μ) : Q (.ref p) (upd n.H p o) :=
  l (n.fix p o) _ d μ (Step.fix s hp) (s.fix hp) r q
abbrev G2 := D → D → Mu → (D → Mu → Prop) → Prop
abbrev G1 := D → Mu → (D → Mu → Prop) → Prop
abbrev GN := List D → Mu → (D → Mu → Prop) → Prop
def Op2 (K : PySem.W.Frag) (r : R2) (g : G2) : Prop := ∀ n μ x y dx dy Qd (Q : VK), SR0 K n μ → Rep K n.Hb n.al x dx → Rep K n.Hb n.al y dy → g dx dy μ Qd → LV K n Qd Q → r x y n.H Q
def Op1 (K : PySem.W.Frag) (r : V → Hp → VK → Prop) (g : G1) : Prop := ∀ n μ x dx Qd (Q : VK), SR0 K n μ → Rep K n.Hb n.al x dx → g dx μ Qd → LV K n Qd Q → r x n.H Q
def OpN (K : PySem.W.Frag) (r : List V → Hp → VK → Prop) (g : GN) : Prop := ∀ n μ xs ds Qd (Q : VK), SR0 K n μ → Reps K n.Hb n.al xs ds → g ds μ Qd → LV K n Qd Q → r xs n.H Q
def dBin (g : G2) (fa fb : DTE) : DTE := fun Γ μ Q E => fa Γ μ (fun x μ1 => fb Γ μ1 (fun y μ2 => g x y μ2 Q) E) E
def dUn (g : G1) (fa : DTE) : DTE := fun Γ μ Q E => fa Γ μ (fun x μ1 => g x μ1 Q) E
def dNil : DTA := fun _ μ Q _ => Q [] μ
def dCons (fa : DTE) (fr : DTA) : DTA := fun Γ μ Q E => fa Γ μ (fun x μ1 => fr Γ μ1 (fun xs μ2 => Q (x :: xs) μ2) E) E
def dCall (g : GN) (fa : DTA) : DTE := fun Γ μ Q E => fa Γ μ (fun xs μ1 => g xs μ1 Q) E
def dTest (fa : DTE) : DTT := fun Γ μ Q E => fa Γ μ (fun x μ1 => match x with | .bl b => Q b μ1 | _ => False) E
def dOp (sp : DSp) (fa : DTA) : DTE := fun Γ μ Q E => fa Γ μ (fun xs μ1 => sp xs μ1 Q E) E
section
variable {X : Cx} {W : WX} {e a b c : Expr} {es : List Expr} {pos : Pos} {fa fb fc : DTE} {ft : DTT} {fr : DTA}
theorem de_var {i : Nat} (h : PE X e (tVar i)) : DE X W e (dVar i) := PE.imp h fun σ H Q ⟨n, Γ, μ, Qd, Ed, hH, sr, gr, h, hq, hx⟩ => by
  subst hH
  unfold dVar at h
  split at h
  · rename_i d e
    obtain ⟨v, h1, h2⟩ := gr.at_ i d e
    exact ⟨v, h1, hq n v d μ (Step.refl n) sr h2 h⟩
  · exact h.elim
theorem de_c {v : V} {d : D} (r : ∀ K Hb al, Rep K Hb al v d) (h : PE X e (tC v)) : DE X W e (dC d) := PE.imp h fun σ H Q ⟨n, Γ, μ, Qd, Ed, hH, sr, gr, h, hq, hx⟩ => by
  subst hH
  exact hq n v d μ (Step.refl n) sr (r _ _ _) h
theorem de_int {i : Int} (h : PE X e (tC (.int i))) : DE X W e (dC (.int i)) := de_c (fun _ _ _ => .int i) h
theorem de_bl {i : Bool} (h : PE X e (tC (.bl i))) : DE X W e (dC (.bl i)) := de_c (fun _ _ _ => .bl i) h
theorem de_str {i : Str} (h : PE X e (tC (.str i))) : DE X W e (dC (.str i)) := de_c (fun _ _ _ => .str i) h
theorem de_non (h : PE X e (tC .non)) : DE X W e (dC .non) := de_c (fun _ _ _ => .non) h
/-- from a part's reading to what follows -/
theorem lift_go {K : PySem.W.Frag} {n : Now} {Γ : Gam} {μ : Mu} {σ : St} {Qd : D → Mu → Prop} {Ed : Exn → Mu → Prop} {Q : VK} (sr : SR0 K n μ) (gr : GR K n Γ σ) (h : fa Γ μ Qd Ed) (hq : LV K n Qd Q) (hx : XLink K W n Γ σ Ed) : lift K W fa σ n.H Q :=
  ⟨n, Γ, μ, Qd, Ed, rfl, sr, gr, h, hq, hx⟩
theorem liftA_go {K : PySem.W.Frag} {n : Now} {Γ : Gam} {μ : Mu} {σ : St} {Qd : List D → Mu → Prop} {Ed : Exn → Mu → Prop} {Q : List V → Hp → Prop} (sr : SR0 K n μ) (gr : GR K n Γ σ) (h : fr Γ μ Qd Ed)
    (hq : ∀ n' v d μ', Step n n' → SR0 K n' μ' → Reps K n'.Hb n'.al v d → Qd d μ' → Q v n'.H) (hx : XLink K W n Γ σ Ed) : liftA K W fr σ n.H Q :=
  ⟨n, Γ, μ, Qd, Ed, rfl, sr, gr, h, hq, hx⟩
theorem liftT_go {K : PySem.W.Frag} {n : Now} {Γ : Gam} {μ : Mu} {σ : St} {Qd : Bool → Mu → Prop} {Ed : Exn → Mu → Prop} {Q : Bool → Hp → Prop} (sr : SR0 K n μ) (gr : GR K n Γ σ) (h : ft Γ μ Qd Ed)
    (hq : ∀ n' b μ', Step n n' → SR0 K n' μ' → Qd b μ' → Q b n'.H) (hx : XLink K W n Γ σ Ed) : liftT K W ft σ n.H Q :=
  ⟨n, Γ, μ, Qd, Ed, rfl, sr, gr, h, hq, hx⟩
theorem two {K : PySem.W.Frag} {r : R2} {g : G2} (hg : Op2 K r g) (σ : St) (H : Hp) (Q : VK) (h : lift K W (dBin g fa fb) σ H Q) : tOp r (lift K W fa) (lift K W fb) σ H Q := by
  obtain ⟨n, Γ, μ, Qd, Ed, hH, sr, gr, h, hq, hx⟩ := h
  subst hH
  refine lift_go sr gr h (fun n1 x dx μ1 s1 r1 p1 q1 => lift_go r1 (gr.step s1) q1 (fun n2 y dy μ2 s2 r2 p2 q2 => ?_) (hx.step s1)) hx
  exact hg n2 μ2 x y dx dy Qd Q r2 (s2.rep p1) p2 q2 (LV.step hq (s1.trans s2))
theorem de_op {op : Operator} {r : R2} {g : G2} (ho : OpR X (binaryOp op) r) (hg : Op2 X.K r g) (ha : DE X W a fa) (hb : DE X W b fb) : DE X W (.BinOp a op b pos) (dBin g fa fb) := PE.imp (pe_op ho ha hb) (two hg)
theorem de_cmp {op : CmpOp} {r : R2} {g : G2} (ho : OpR X (compareOp op) r) (hg : Op2 X.K r g) (ha : DE X W a fa) (hb : DE X W b fb) (hm : behindInMarks op b = false := by rfl) : DE X W (.Compare a [op] [b] pos) (dBin g fa fb) := PE.imp (pe_cmpR ho ha hb hm) (two hg)
theorem de_un {op : UnaryOp} {r : V → Hp → VK → Prop} {g : G1} (ho : UnR X (unaryOp op) r) (hg : Op1 X.K r g) (ha : DE X W a fa) : DE X W (.UnaryOp op a pos) (dUn g fa) := PE.imp (pe_un ho ha) fun σ H Q ⟨n, Γ, μ, Qd, Ed, hH, sr, gr, h, hq, hx⟩ => by
  subst hH
  exact lift_go sr gr h (fun n1 x dx μ1 s1 r1 p1 q1 => hg n1 μ1 x dx Qd Q r1 p1 q1 (LV.step hq s1)) hx
theorem de_ix {r : R2} {g : G2} (ho : IxR X r) (hg : Op2 X.K r g) (ha : DE X W a fa) (hb : DE X W b fb) (hs : PlainIx b := by exact fun _ _ => rfl) : DE X W (.Subscript a b pos) (dBin g fa fb) := PE.imp (pe_ix ho ha hb hs) (two hg)
/-! arguments -/
theorem da_nil : DA X W [] dNil := PA.imp pa_nil fun σ H Q ⟨n, Γ, μ, Qd, Ed, hH, sr, gr, h, hq, hx⟩ => by
  subst hH
  exact hq n [] [] μ (Step.refl n) sr .nil h
theorem da_cons (ha : DE X W e fa) (hr : DA X W es fr) (hs : starEach (e :: es) X.env = (false, eval e X.env) :: starEach es X.env := by rfl) : DA X W (e :: es) (dCons fa fr) := PA.imp (pa_cons ha hr hs) fun σ H Q ⟨n, Γ, μ, Qd, Ed, hH, sr, gr, h, hq, hx⟩ => by
  subst hH
  refine lift_go sr gr h (fun n1 x dx μ1 s1 r1 p1 q1 => liftA_go r1 (gr.step s1) q1 (fun n2 y dy μ2 s2 r2 p2 q2 => ?_) (hx.step s1)) hx
  exact hq n2 _ _ μ2 (s1.trans s2) r2 (.cons (s2.rep p1) p2) q2
/-! displays -/
def gLst : GN := fun ds μ Q => ds.length ≤ sizeLine ∧ Q (.lst ds) μ
def gTup : GN := fun ds μ Q => ds.length ≤ sizeLine ∧ Q (.tup ds) μ
/-- a list that will change: a cell -/
def gLstM : GN := fun ds μ Q => ds.length ≤ sizeLine ∧ Q (.ref μ.length) (μ ++ [.lst ds])
theorem nN {K : PySem.W.Frag} {r : List V → Hp → VK → Prop} {g : GN} (hg : OpN K r g) (σ : St) (H : Hp) (Q : VK) (h : lift K W (dCall g fr) σ H Q) : liftA K W fr σ H fun xs H1 => r xs H1 Q := by
  obtain ⟨n, Γ, μ, Qd, Ed, hH, sr, gr, h, hq, hx⟩ := h
  subst hH
  exact liftA_go sr gr h (fun n1 x dx μ1 s1 r1 p1 q1 => hg n1 μ1 x dx Qd Q r1 p1 q1 (LV.step hq s1)) hx
theorem rep_lst {K : PySem.W.Frag} {Hb : Hp} {al : List Addr} {p : Addr} {vs : List V} {ds : List D} (hp : Hb p = none) (r : Reps K Hb al vs ds) : Rep K (upd Hb p (.lst vs)) al (.ref p) (.lst ds) := .lst upd_same (r.mono (same_upd hp) (List.prefix_refl _))
theorem rep_tup {K : PySem.W.Frag} {Hb : Hp} {al : List Addr} {p : Addr} {vs : List V} {ds : List D} (hp : Hb p = none) (r : Reps K Hb al vs ds) : Rep K (upd Hb p (.tup vs)) al (.ref p) (.tup ds) := .tup upd_same (r.mono (same_upd hp) (List.prefix_refl _))
/-- a new list, as data or as a cell -/
theorem new_lst {K : PySem.W.Frag} {n : Now} {Qd : D → Mu → Prop} {Q : VK} (l : LV K n Qd Q) {μ : Mu} (s : SR0 K n μ) {p : Addr} {vs : List V} {ds : List D} (hp : n.H p = none) (r : Reps K n.Hb n.al vs ds) (q : Qd (.lst ds) μ) : Q (.ref p) (upd n.H p (.lst vs)) :=
  l.fixed s hp (rep_lst (s.hb hp) r) q
theorem new_tup {K : PySem.W.Frag} {n : Now} {Qd : D → Mu → Prop} {Q : VK} (l : LV K n Qd Q) {μ : Mu} (s : SR0 K n μ) {p : Addr} {vs : List V} {ds : List D} (hp : n.H p = none) (r : Reps K n.Hb n.al vs ds) (q : Qd (.tup ds) μ) : Q (.ref p) (upd n.H p (.tup vs)) :=
  l.fixed s hp (rep_tup (s.hb hp) r) q
theorem new_cell {K : PySem.W.Frag} {n : Now} {Qd : D → Mu → Prop} {Q : VK} (l : LV K n Qd Q) {μ : Mu} (s : SR0 K n μ) {p : Addr} {vs : List V} {ds : List D} (hp : n.H p = none) (r : Reps K n.Hb n.al vs ds) (q : Qd (.ref μ.length) (μ ++ [.lst ds])) : Q (.ref p) (upd n.H p (.lst vs)) := by
  refine l (n.cell p (.lst vs)) _ (.ref μ.length) (μ ++ [.lst ds]) (Step.cell hp) (s.cellN (c := .lst ds) hp ⟨s.hb hp, vs, upd_same, r.mono (Same.refl _) (List.prefix_append _ _)⟩ (fun k z => by cases z)) (.ref ?_) q
  show (n.al ++ [p])[μ.length]? = some p
  rw [← s.len]
  simp
theorem opn_lst {K : PySem.W.Frag} : OpN K (fun xs H Q => xs.length ≤ sizeLine ∧ ∀ p, H p = none → Q (.ref p) (upd H p (.lst xs))) gLst := fun n μ xs ds Qd Q s r h l => ⟨r.length ▸ h.1, fun p hp => new_lst l s hp r h.2⟩
theorem opn_lstM {K : PySem.W.Frag} : OpN K (fun xs H Q => xs.length ≤ sizeLine ∧ ∀ p, H p = none → Q (.ref p) (upd H p (.lst xs))) gLstM := fun n μ xs ds Qd Q s r h l => ⟨r.length ▸ h.1, fun p hp => new_cell l s hp r h.2⟩
theorem opn_tup {K : PySem.W.Frag} : OpN K (fun xs H Q => xs.length ≤ sizeLine ∧ ∀ p, H p = none → Q (.ref p) (upd H p (.tup xs))) gTup := fun n μ xs ds Qd Q s r h l => ⟨r.length ▸ h.1, fun p hp => new_tup l s hp r h.2⟩
theorem de_lst (h : DA X W es fr) : DE X W (.List es pos) (dCall gLst fr) := PE.imp (pe_lst h) fun σ H Q q => by
  have z := nN (opn_lst (K := X.K)) σ H Q q
  exact z
theorem de_lstM (h : DA X W es fr) : DE X W (.List es pos) (dCall gLstM fr) := PE.imp (pe_lst h) fun σ H Q q => by
  have z := nN (opn_lstM (K := X.K)) σ H Q q
  exact z
theorem de_tup {x1} (h : DA X W es fr) : DE X W (.Tuple es x1 pos) (dCall gTup fr) := PE.imp (pe_tup h) fun σ H Q q => by
  have z := nN (opn_tup (K := X.K)) σ H Q q
  exact z
/-! builtins by name -/
section
variable {x : Str} {id : String} {T : String} {r : List V → Hp → VK → Prop} {g : GN} {p : Pos}
theorem de_callB (hc : CallR X (.builtin id) r) (hg : OpN X.K r g) (hgl : Gl X x) (hm : X.mg x = none) (hv : bootBuiltins x = some (.builtin id)) (ha : DA X W (e :: es) fr) (hn : x ≠ "__name__" := by decide) (hdb : (x == ("__debug__" : Str)) = false := by decide)
    (he : starEach (e :: es) X.env = (false, eval e X.env) :: starEach es X.env := by rfl) (hpl : (backTo pos (starEach es X.env)).any (·.1) = false := by rfl) : DE X W (.Call (.Name x p) (e :: es) [] pos) (dCall g fr) :=
  PE.imp (pe_callB hc hgl hm hv ha hn hdb he hpl) fun σ H Q q => nN hg σ H Q q
theorem de_callTy (hc : CallR X (.type T) r) (hg : OpN X.K r g) (hgl : Gl X x) (hm : X.mg x = none) (hv : bootBuiltins x = some (.type T)) (ha : DA X W (e :: es) fr) (hn : x ≠ "__name__" := by decide) (hdb : (x == ("__debug__" : Str)) = false := by decide)
    (he : starEach (e :: es) X.env = (false, eval e X.env) :: starEach es X.env := by rfl) (hpl : (backTo pos (starEach es X.env)).any (·.1) = false := by rfl) : DE X W (.Call (.Name x p) (e :: es) [] pos) (dCall g fr) :=
  PE.imp (pe_callTy hc hgl hm hv ha hn hdb he hpl) fun σ H Q q => nN hg σ H Q q
end
/-! tests -/
theorem dt_val (h : DE X W e fa) (he : ∀ whole, isTrue e X.env whole = (do let v ← whole; standAt e.pos; holding [v] (truthy v)) := by intro _; rfl) : DT X W e (dTest fa) := PT.imp (pt_val h he) fun σ H Q ⟨n, Γ, μ, Qd, Ed, hH, sr, gr, h, hq, hx⟩ => by
  subst hH
  refine lift_go sr gr h (fun n1 x dx μ1 s1 r1 p1 q1 => ?_) hx
  cases p1 with
  | bl b => exact ⟨b, rfl, hq n1 b μ1 s1 r1 q1⟩
  | _ => exact q1.elim
def dAndT (ta tb : DTT) : DTT := fun Γ μ Q E => ta Γ μ (fun c μ1 => cond c (tb Γ μ1 Q E) (Q false μ1)) E
def dOrT (ta tb : DTT) : DTT := fun Γ μ Q E => ta Γ μ (fun c μ1 => cond c (Q true μ1) (tb Γ μ1 Q E)) E
def dNotT (ta : DTT) : DTT := fun Γ μ Q E => ta Γ μ (fun c μ1 => Q (!c) μ1) E
/-- and, or of values all but the last of which are True or False -/
def dAnd (ta tb : DTE) : DTE := fun Γ μ Q E => ta Γ μ (fun x μ1 => match x with | .bl c => cond c (tb Γ μ1 Q E) (Q (.bl false) μ1) | _ => False) E
def dOr (ta tb : DTE) : DTE := fun Γ μ Q E => ta Γ μ (fun x μ1 => match x with | .bl c => cond c (Q (.bl true) μ1) (tb Γ μ1 Q E) | _ => False) E
def dNot (ta : DTE) : DTE := fun Γ μ Q E => ta Γ μ (fun x μ1 => match x with | .bl c => Q (.bl (!c)) μ1 | _ => False) E
def dIfE (t : DTT) (ta tb : DTE) : DTE := fun Γ μ Q E => t Γ μ (fun c μ1 => cond c (ta Γ μ1 Q E) (tb Γ μ1 Q E)) E
theorem de_one {op} (h : DE X W a fa) : DE X W (.BoolOp op [a] pos) fa := pe_one h
theorem de_and {rest : List Expr} (ha : DE X W a fa) (hb : DE X W (.BoolOp .And (b :: rest) pos) fb) : DE X W (.BoolOp .And (a :: b :: rest) pos) (dAnd fa fb) := PE.imp (pe_and ha hb) fun σ H Q ⟨n, Γ, μ, Qd, Ed, hH, sr, gr, h, hq, hx⟩ => by
  subst hH
  refine lift_go sr gr h (fun n1 x dx μ1 s1 r1 p1 q1 => ?_) hx
  cases p1 with
  | bl c =>
    refine ⟨c, rfl, ?_⟩
    cases c with
    | true => exact iteT (lift_go r1 (gr.step s1) q1 (LV.step hq s1) (hx.step s1))
    | false => exact iteF (hq n1 _ _ μ1 s1 r1 (.bl false) q1)
  | _ => exact q1.elim
theorem de_not (ha : DE X W a fa) : DE X W (.UnaryOp .Not a pos) (dNot fa) := PE.imp (pe_not ha) fun σ H Q ⟨n, Γ, μ, Qd, Ed, hH, sr, gr, h, hq, hx⟩ => by
  subst hH
  refine lift_go sr gr h (fun n1 x dx μ1 s1 r1 p1 q1 => ?_) hx
  cases p1 with
  | bl c => exact ⟨c, rfl, hq n1 _ _ μ1 s1 r1 (.bl _) q1⟩
  | _ => exact q1.elim
theorem pw_and' {rest : List Expr} {ta tb : DTT} (ha : DT X W a ta) (hb : PW X (.BoolOp .And (b :: rest) pos) (liftT X.K W tb)) : PW X (.BoolOp .And (a :: b :: rest) pos) (liftT X.K W (dAndT ta tb)) := by
  have z := pw_and (pos := pos) ha hb
  refine ⟨fun whole pins s σ H Q I h => z.run whole pins s σ H Q I ?_⟩
  obtain ⟨n, Γ, μ, Qd, Ed, hH, sr, gr, h, hq, hx⟩ := h
  subst hH
  refine liftT_go sr gr h (fun n1 x μ1 s1 r1 q1 => ?_) hx
  cases x with
  | true => exact iteT (liftT_go r1 (gr.step s1) q1 (fun n2 b μ2 s2 => hq n2 b μ2 (s1.trans s2)) (hx.step s1))
  | false => exact iteF (hq n1 _ μ1 s1 r1 q1)
theorem pw_or' {rest : List Expr} {ta tb : DTT} (ha : DT X W a ta) (hb : PW X (.BoolOp .Or (b :: rest) pos) (liftT X.K W tb)) : PW X (.BoolOp .Or (a :: b :: rest) pos) (liftT X.K W (dOrT ta tb)) := by
  have z := pw_or (pos := pos) ha hb
  refine ⟨fun whole pins s σ H Q I h => z.run whole pins s σ H Q I ?_⟩
  obtain ⟨n, Γ, μ, Qd, Ed, hH, sr, gr, h, hq, hx⟩ := h
  subst hH
  refine liftT_go sr gr h (fun n1 x μ1 s1 r1 q1 => ?_) hx
  cases x with
  | true => exact iteT (hq n1 _ μ1 s1 r1 q1)
  | false => exact iteF (liftT_go r1 (gr.step s1) q1 (fun n2 b μ2 s2 => hq n2 b μ2 (s1.trans s2)) (hx.step s1))
theorem dt_not {ta : DTT} (ha : DT X W a ta) : DT X W (.UnaryOp .Not a pos) (dNotT ta) := PT.imp (pt_not ha) fun σ H Q ⟨n, Γ, μ, Qd, Ed, hH, sr, gr, h, hq, hx⟩ => by
  subst hH
  exact liftT_go sr gr h (fun n1 x μ1 s1 r1 q1 => hq n1 _ μ1 s1 r1 q1) hx
end
end DV
namespace DV
open PySem L2
/-! ### what has no reference in it -/
mutual
def D.pu : D → Bool
  | .ref _ => false
  | .lst xs => D.puL xs
  | .tup xs => D.puL xs
  | .dct kvs => D.puK kvs
  | .ins _ fs => D.puF fs
  | _ => true
def D.puL : List D → Bool
  | [] => true
  | x :: xs => x.pu && D.puL xs
def D.puK : List (Key × D) → Bool
  | [] => true
  | (_, x) :: xs => x.pu && D.puK xs
def D.puF : List (Str × D) → Bool
  | [] => true
  | (_, x) :: xs => x.pu && D.puF xs
end
theorem puL_iff : ∀ {xs : List D}, D.puL xs = true ↔ ∀ x ∈ xs, x.pu = true
  | [] => by simp [D.puL]
  | x :: xs => by simp [D.puL, puL_iff (xs := xs)]
theorem puK_eq : ∀ (xs : List (Key × D)), D.puK xs = D.puL (xs.map (·.2))
  | [] => rfl
  | (k, x) :: xs => by simp [D.puK, D.puL, puK_eq xs]
theorem puF_eq : ∀ (xs : List (Str × D)), D.puF xs = D.puL (xs.map (·.2))
  | [] => rfl
  | (k, x) :: xs => by simp [D.puF, D.puL, puF_eq xs]
def Cell.pu : Cell → Bool
  | .lst xs => D.puL xs
  | .dct kvs => D.puK kvs
  | .ins _ fs => D.puF fs
  | .exc _ fs => D.puF fs
  | _ => true
theorem puF_mem {fs : List (Str × D)} {f : Str} {d : D} (hp : D.puF fs = true) (h : fs.lookup f = some d) : d.pu = true := by
  induction fs with
  | nil => cases h
  | cons p l ih =>
    obtain ⟨g, y⟩ := p
    simp only [D.puF, Bool.and_eq_true] at hp
    rw [List.lookup_cons] at h
    split at h
    · cases h; exact hp.1
    · exact ih hp.2 h
section
variable {K : PySem.W.Frag} {Hb : Hp} {al al' : List Addr}
mutual
theorem Rep.any : ∀ {v : V} {d : D}, Rep K Hb al v d → d.pu = true → Rep K Hb al' v d
  | _, _, .non, _ => .non
  | _, _, .bl b, _ => .bl b
  | _, _, .int i, _ => .int i
  | _, _, .str x, _ => .str x
  | _, _, .ref h, q => by simp [D.pu] at q
  | _, _, .cls C, _ => .cls C
  | _, _, .scr h, _ => .scr h
  | _, _, .lst h r, q => .lst h (Reps.any r (by simpa [D.pu] using q))
  | _, _, .tup h r, q => .tup h (Reps.any r (by simpa [D.pu] using q))
  | _, _, .dct (us := us) (ks := ks) (ds := ds) h e r, q => .dct h e (Reps.any r (by
      have hl := r.length
      rw [List.length_map] at hl
      rw [D.pu, puK_eq, List.map_snd_zip (by rw [e, List.length_map]; omega)] at q
      exact q))
  | _, _, .ins (us := us) (ks := ks) (ds := ds) h e r, q => .ins h e (Reps.any r (by
      have hl := r.length
      rw [List.length_map] at hl
      rw [D.pu, puF_eq, List.map_snd_zip (by rw [e, List.length_map]; omega)] at q
      exact q))
theorem Reps.any : ∀ {vs : List V} {ds : List D}, Reps K Hb al vs ds → D.puL ds = true → Reps K Hb al' vs ds
  | _, _, .nil, _ => .nil
  | _, _, .cons h r, q => by
    simp [D.puL] at q
    exact .cons (Rep.any h q.1) (Reps.any r q.2)
end
mutual
/-- data that stood over a shorter list of cells -/
theorem Rep.back {K' : PySem.W.Frag} {Hb' : Hp} (p : al <+: al') : ∀ {v : V} {d : D} {v' : V}, Rep K Hb al v d → Rep K' Hb' al' v' d → Rep K' Hb' al v' d
  | _, _, _, .non, h => by cases h; exact .non
  | _, _, _, .bl b, h => by cases h; exact .bl b
  | _, _, _, .int b, h => by cases h; exact .int b
  | _, _, _, .str b, h => by cases h; exact .str b
  | _, _, _, .cls b, h => by cases h; exact .cls b
  | _, _, _, .scr b, h => by
    cases h with
    | scr h2 => exact .scr h2
  | _, _, _, .ref h1, h => by
    cases h with
    | ref h2 =>
      have := pre_get p h1
      rw [h2] at this; cases this
      exact .ref h1
  | _, _, _, .lst h1 r, h => by
    cases h with
    | lst h2 r2 => exact .lst h2 (Reps.back p r r2)
  | _, _, _, .tup h1 r, h => by
    cases h with
    | tup h2 r2 => exact .tup h2 (Reps.back p r r2)
  | _, _, _, .dct (us := us) (ks := ks) (ds := ds) h1 e1 r, h => by
    generalize hq : ks.zip ds = zs at h
    cases h with
    | dct h2 e2 r2 =>
      rename_i us2 ks2 ds2
      have l1 := r.length
      have l2 := r2.length
      rw [List.length_map] at l1 l2
      have e : ds = ds2 := by
        have z := congrArg (List.map Prod.snd) hq
        rw [List.map_snd_zip (by rw [e1, List.length_map]; omega), List.map_snd_zip (by rw [e2, List.length_map]; omega)] at z
        exact z
      exact .dct h2 e2 (Reps.back p r (e ▸ r2) |> fun q => e ▸ q)
  | _, _, _, .ins (us := us) (ks := ks) (ds := ds) h1 e1 r, h => by
    generalize hq : ks.zip ds = zs at h
    cases h with
    | ins h2 e2 r2 =>
      rename_i us2 ks2 ds2
      have l1 := r.length
      have l2 := r2.length
      rw [List.length_map] at l1 l2
      have e : ds = ds2 := by
        have z := congrArg (List.map Prod.snd) hq
        rw [List.map_snd_zip (by rw [e1, List.length_map]; omega), List.map_snd_zip (by rw [e2, List.length_map]; omega)] at z
        exact z
      exact .ins h2 e2 (Reps.back p r (e ▸ r2) |> fun q => e ▸ q)
theorem Reps.back {K' : PySem.W.Frag} {Hb' : Hp} (p : al <+: al') : ∀ {v : List V} {d : List D} {v' : List V}, Reps K Hb al v d → Reps K' Hb' al' v' d → Reps K' Hb' al v' d
  | _, _, _, .nil, h => by cases h; exact .nil
  | _, _, _, .cons h r, q => by
    cases q with
    | cons h2 r2 => exact .cons (Rep.back p h h2) (Reps.back p r r2)
end
end
/-! ### statements -/
def dNext : DTS := fun D Γ μ => D.nx Γ μ
def dSeq (t u : DTS) : DTS := fun D Γ μ => t { D with nx := u D } Γ μ
def dDrop (f : DTE) : DTS := fun D Γ μ => f Γ μ (fun _ μ1 => D.nx Γ μ1) (fun x μ1 => D.ex x Γ μ1)
def dRet (f : DTE) : DTS := fun D Γ μ => f Γ μ D.rt (fun x μ1 => D.ex x Γ μ1)
def dRetN : DTS := fun D Γ μ => D.rt .non μ
def dIf (t : DTT) (a b : DTS) : DTS := fun D Γ μ => t Γ μ (fun c μ1 => cond c (a D Γ μ1) (b D Γ μ1)) (fun x μ1 => D.ex x Γ μ1)
def dBreak : DTS := fun D Γ μ => D.bk Γ μ
def dCont : DTS := fun D Γ μ => D.ct Γ μ
abbrev DTG := D → Gam → Mu → (Gam → Mu → Prop) → (Exn → Mu → Prop) → Prop
def dName (i : Nat) : DTG := fun d Γ μ Q _ => Q (Γ.set i (some d)) μ
def dAsg (f : DTE) (g : DTG) : DTS := fun D Γ μ => f Γ μ (fun d μ1 => g d Γ μ1 D.nx (fun x μ2 => D.ex x Γ μ2)) (fun x μ1 => D.ex x Γ μ1)
section
variable (K : PySem.W.Frag) (W : WX)
def liftG (g : DTG) : TG := fun v σ H Q => ∃ n d Γ μ Qd Ed, n.H = H ∧ SR0 K n μ ∧ GR K n Γ σ ∧ Rep K n.Hb n.al v d ∧ g d Γ μ Qd Ed ∧
  (∀ n' Γ' σ' μ', Step n n' → SR0 K n' μ' → GR K n' Γ' σ' → Qd Γ' μ' → Q σ' n'.H) ∧ XLink K W n Γ σ Ed
end
abbrev DG (X : Cx) (W : WX) (tg : Expr) (g : DTG) : Prop := PG X tg (liftG X.K W g)
section
variable {X : Cx} {W : WX} {e c tg : Expr} {st : Stmt} {rest sa sb : List Stmt} {pos : Pos} {f : DTE} {t : DTT} {T U : DTS} {g : DTG}
theorem PG.imp {g g' : TG} (h : PG X tg g) (hi : ∀ v σ H Q, g' v σ H Q → g v σ H Q) : PG X tg g' :=
  ⟨fun u v pins s σ H Q I r q => h.run u v pins s σ H Q I r (hi _ _ _ _ q)⟩
theorem liftS_go {K : PySem.W.Frag} {A n : Now} {Γ : Gam} {μ : Mu} {σ : St} {Dd : DEnds} {Dn : Ends} (sa : Step A n) (sr : SR0 K n μ) (gr : GR K n Γ σ) (h : T Dd Γ μ) (l : Links K W A Dd Dn) : liftS K W T Dn σ n.H :=
  ⟨A, n, Γ, μ, Dd, rfl, sa, sr, gr, h, l⟩
theorem Links.x {K : PySem.W.Frag} {A n : Now} {Γ : Gam} {σ : St} {Dd : DEnds} {Dn : Ends} (l : Links K W A Dd Dn) (s : Step A n) (gr : GR K n Γ σ) : XLink K W n Γ σ (fun x μ1 => Dd.ex x Γ μ1) :=
  fun n' cls dd x μ' s' r' e q => l.ex n' Γ σ μ' cls dd x (s.trans s') r' (gr.step s') (e.anchor s) q
theorem dss_nil : DSs X W [] dNext := PSs.imp pss_nil fun Dn σ H ⟨A, n, Γ, μ, Dd, hH, sa, sr, gr, h, l⟩ => by
  subst hH; exact l.nx n Γ σ μ sa sr gr h
theorem dss_cons (h1 : DS X W st T) (h2 : DSs X W rest U) : DSs X W (st :: rest) (dSeq T U) := PSs.imp (pss_cons h1 h2) fun Dn σ H ⟨A, n, Γ, μ, Dd, hH, sa, sr, gr, h, l⟩ => by
  subst hH
  refine liftS_go sa sr gr h ⟨fun n' Γ' σ' μ' s' r' g' q => liftS_go s' r' g' q l, l.bk, l.ct, l.rt, l.ex⟩
theorem dss_one (h1 : DS X W st T) : DSs X W [st] T := pss_one h1
theorem ds_drop (h : DE X W e f) (hs : swapsWith e none pos.line X.env = pure false := by rfl) : DS X W (.Expr e pos) (dDrop f) := PS.imp (ps_expr h hs) fun Dn σ H ⟨A, n, Γ, μ, Dd, hH, sa, sr, gr, h, l⟩ => by
  subst hH
  exact lift_go sr gr h (fun n' v d μ' s' r' _ q => l.nx n' Γ σ μ' (sa.trans s') r' (gr.step s') q) (l.x sa gr)
theorem ds_ret (h : DE X W e f) : DS X W (.Return (some e) pos) (dRet f) := PS.imp (ps_ret h) fun Dn σ H ⟨A, n, Γ, μ, Dd, hH, sa, sr, gr, h, l⟩ => by
  subst hH
  exact lift_go sr gr h (fun n' v d μ' s' r' p q => l.rt n' v d μ' (sa.trans s') r' p q) (l.x sa gr)
theorem ds_if (hc : DT X W c t) (ha : DSs X W sa T) (hb : DSs X W sb U) : DS X W (.If c sa sb pos) (dIf t T U) := PS.imp (ps_if hc ha hb) fun Dn σ H ⟨A, n, Γ, μ, Dd, hH, sa, sr, gr, h, l⟩ => by
  subst hH
  refine liftT_go sr gr h (fun n' b μ' s' r' q => ?_) (l.x sa gr)
  cases b with
  | true => exact iteT (liftS_go (sa.trans s') r' (gr.step s') q l)
  | false => exact iteF (liftS_go (sa.trans s') r' (gr.step s') q l)
theorem dg_name {i : Nat} (h : PG X tg (gName i)) : DG X W tg (dName i) := PG.imp h fun v σ H Q ⟨n, d, Γ, μ, Qd, Ed, hH, sr, gr, rp, h, hq, hx⟩ => by
  subst hH
  exact hq n (Γ.set i (some d)) (σ.set i (some v)) μ (Step.refl n) sr (gr.set rp i) h
theorem ds_asg (he : DE X W e f) (hg : DG X W tg g) (hs : swapsWithSole [tg] e pos.line X.env = pure false := by rfl) (hw : swappedStores [tg] e X.env = pure none := by rfl)
    (h1 : (assignEach [tg] X.env).map (·.2) = [assign tg X.env] := by rfl) : DS X W (.Assign [tg] e pos) (dAsg f g) := PS.imp (ps_asg he hg hs hw h1) fun Dn σ H ⟨A, n, Γ, μ, Dd, hH, sa, sr, gr, h, l⟩ => by
  subst hH
  refine lift_go sr gr h (fun n' v d μ' s' r' p q => ?_) (l.x sa gr)
  exact ⟨n', d, Γ, μ', _, _, rfl, r', gr.step s', p, q, fun n2 Γ2 σ2 μ2 s2 r2 g2 q2 => l.nx n2 Γ2 σ2 μ2 ((sa.trans s').trans s2) r2 g2 q2, l.x (sa.trans s') (gr.step s')⟩
theorem ds_set {i : Nat} {x : Str} {pos' : Pos} (he : DE X W e f) (hN : X.N.Nodup) (hi : X.N[i]? = some x := by rfl) (hx : Loc X.env.scope x := by first | exact Or.inl rfl | exact Or.inr rfl) (hs : swapsWith e (some (.Name x pos')) pos.line X.env = pure false := by rfl) (hf : X.fn x = true ∨ X.env.scope.names.lookup x = some .local := by first | exact .inl rfl | exact .inr rfl | assumption) :
    DS X W (.Assign [.Name x pos'] e pos) (dAsg f (dName i)) := PS.imp (ps_set (i := i) (pos := pos) (pos' := pos') hN hi hx he hs hf) fun Dn σ H ⟨A, n, Γ, μ, Dd, hH, sa, sr, gr, h, l⟩ => by
  subst hH
  refine lift_go sr gr h (fun n' v d μ' s' r' p q => ?_) (l.x sa gr)
  exact l.nx n' (Γ.set i (some d)) (σ.set i (some v)) μ' (sa.trans s') r' ((gr.step s').set p i) q
end
end DV
namespace DV
open PySem L2
def spOf (K : PySem.W.Frag) (S : DSp) : Sp := fun vs H Q E => ∃ n ds μ Qd Ed, n.H = H ∧ SR0 K n μ ∧ Reps K n.Hb n.al vs ds ∧ S ds μ Qd Ed ∧ LV K n Qd Q ∧
  (∀ n' cls dd x μ', Step n n' → SR0 K n' μ' → ExR K n n' cls dd x → Ed x μ' → E cls dd n'.H)
section
variable {X : Cx} {W : WX} {k : Nat} {f : Addr} {fd : FuncData} {ps : List Str} {S : DSp} {x : Str} {p pos : Pos} {e : Expr} {es : List Expr} {fr : DTA}
theorem call_go {K : PySem.W.Frag} (σ : St) (H : Hp) (Q : VK) (h : lift K W (dOp S fr) σ H Q) : liftA K W fr σ H fun vs H1 => spOf K S vs H1 Q (WE W σ) := by
  obtain ⟨n, Γ, μ, Qd, Ed, hH, sr, gr, h, hq, hx⟩ := h
  subst hH
  exact liftA_go sr gr h (fun n1 x dx μ1 s1 r1 p1 q1 => ⟨n1, dx, μ1, Qd, Ed, rfl, r1, p1, q1, LV.step hq s1, hx.step s1⟩) hx
theorem de_fn (F : FnOk X.prog X.w X.K X.mg X.base (L2.CX X.prog X.w) k f fd ps (spOf X.K S)) (hr : Room k X.A) (hg : Gl X x) (hm : X.mg x = some (.ref f)) (hk : PySem.W.keepIn X.K (.ref f) = true) (hb : Binds X.K fd ps []) (tk : Takes X W)
    (ha : DA X W (e :: es) fr) (hdb : (x == ("__debug__" : Str)) = false := by decide) (he : starEach (e :: es) X.env = (false, eval e X.env) :: starEach es X.env := by rfl) (hpl : (backTo pos (starEach es X.env)).any (·.1) = false := by rfl) :
    DE X W (.Call (.Name x p) (e :: es) [] pos) (dOp S fr) := PE.imp (pe_callS (E := WE W) F hr hg hm hk hb (fun σ => passAt tk σ) ha hdb he hpl) (fun σ H Q h => call_go σ H Q h)
end
/-! ### a def's end -/
def Upd (μ μ1 : Mu) : Prop := μ1.length = μ.length ∧ ∀ (i : Nat) c, μ1[i]? = some c → μ[i]? = some c ∨ c.pu = true
theorem Upd.refl (μ : Mu) : Upd μ μ := ⟨rfl, fun _ _ h => .inl h⟩
theorem Upd.set {μ μ1 : Mu} (u : Upd μ μ1) {l : Nat} {c : Cell} (hc : c.pu = true) : Upd μ (μ1.set l c) := by
  refine ⟨by rw [List.length_set]; exact u.1, fun i d h => ?_⟩
  by_cases hi : l = i
  · subst hi
    by_cases hl : l < μ1.length
    · rw [List.getElem?_set_self hl] at h; cases h; exact .inr hc
    · rw [List.getElem?_eq_none (by simp; omega)] at h; cases h
  · rw [List.getElem?_set_ne hi] at h; exact u.2 i d h
mutual
/-- a tree over cells beyond m, with the cells taken as they stand -/
inductive Fz (m : Nat) (μ : Mu) : D → D → Prop
  | pu {d} : d.pu = true → Fz m μ d d
  | cell {l ds es} : m ≤ l → μ[l]? = some (.lst ds) → FzL m μ ds es → Fz m μ (.ref l) (.lst es)
  | dcell {l kvs es} : m ≤ l → μ[l]? = some (.dct kvs) → FzL m μ (kvs.map (·.2)) es → Fz m μ (.ref l) (.dct ((kvs.map (·.1)).zip es))
  | icell {l C fs es} : m ≤ l → μ[l]? = some (.ins C fs) → FzL m μ (fs.map (·.2)) es → Fz m μ (.ref l) (.ins C ((fs.map (·.1)).zip es))
  | lst {ds es} : FzL m μ ds es → Fz m μ (.lst ds) (.lst es)
  | tup {ds es} : FzL m μ ds es → Fz m μ (.tup ds) (.tup es)
inductive FzL (m : Nat) (μ : Mu) : List D → List D → Prop
  | nil : FzL m μ [] []
  | cons {d e ds es} : Fz m μ d e → FzL m μ ds es → FzL m μ (d :: ds) (e :: es)
end
def FnEnd (μ : Mu) (d : D) (μ' : Mu) (Q : D → Mu → Prop) : Prop := Q d μ' ∨ ∃ μ1 loc, μ' = μ1 ++ loc ∧ Upd μ μ1 ∧
  ((d.pu = true ∧ Q d μ1) ∨ (∃ l, d = .ref l ∧ l < μ1.length ∧ Q d μ1) ∨
   (∃ l ds, d = .ref (μ1.length + l) ∧ loc[l]? = some (.lst ds) ∧ D.puL ds = true ∧ Q (.ref μ1.length) (μ1 ++ [.lst ds])) ∨
   (∃ l ds, d = .ref (μ1.length + l) ∧ loc[l]? = some (.lst ds) ∧ D.puL ds = true ∧ Q (.lst ds) μ1) ∨
   (∃ l ds, d = .ref (μ1.length + l) ∧ loc[l]? = some (.dct ds) ∧ D.puK ds = true ∧ Q (.ref μ1.length) (μ1 ++ [.dct ds])) ∨
   (∃ l ds, d = .ref (μ1.length + l) ∧ loc[l]? = some (.dct ds) ∧ D.puK ds = true ∧ Q (.dct ds) μ1) ∨
   (∃ e, Fz μ1.length (μ1 ++ loc) d e ∧ Q e μ1))
def FnExc (μ : Mu) (x : Exn) (μ' : Mu) (E : Exn → Mu → Prop) : Prop := ∃ μ1 loc, μ' = μ1 ++ loc ∧ Upd μ μ1 ∧ D.puF x.fs = true ∧ E x μ1
def dFn (μ : Mu) (Q : D → Mu → Prop) (E : Exn → Mu → Prop) : DEnds := { nx := fun _ μ' => FnEnd μ .non μ' Q, rt := fun d μ' => FnEnd μ d μ' Q, ex := fun x _ μ' => FnExc μ x μ' E }
theorem FnEnd.pure {μ μ1 loc : Mu} {d : D} {Q : D → Mu → Prop} (u : Upd μ μ1) (h : d.pu = true) (q : Q d μ1) : FnEnd μ d (μ1 ++ loc) Q := .inr ⟨μ1, loc, rfl, u, .inl ⟨h, q⟩⟩
theorem FnEnd.pure0 {μ μ1 : Mu} {d : D} {Q : D → Mu → Prop} (u : Upd μ μ1) (h : d.pu = true) (q : Q d μ1) : FnEnd μ d μ1 Q := .inr ⟨μ1, [], by simp, u, .inl ⟨h, q⟩⟩
theorem FnEnd.here {μ μ' : Mu} {d : D} {Q : D → Mu → Prop} (q : Q d μ') : FnEnd μ d μ' Q := .inl q
section
variable {K : PySem.W.Frag} {A n : Now} {μ μ1 loc : Mu}
theorem exc_back {K' : PySem.W.Frag} {Hb Hb' : Hp} {al al' : List Addr} {us us0 : List (Str × V)} {fs : List (Str × D)} (p : al <+: al') (h5 : ∀ f, us0.lookup f = none ↔ fs.lookup f = none)
    (h4 : ∀ f v, us0.lookup f = some v → ∃ d, fs.lookup f = some d ∧ Rep K Hb al v d) (h3 : ∀ f v, us.lookup f = some v → ∃ d, fs.lookup f = some d ∧ Rep K' Hb' al' v d) :
    ∀ f v, us.lookup f = some v → ∃ d, fs.lookup f = some d ∧ Rep K' Hb' al v d := fun f v e => by
  obtain ⟨d, e1, e2⟩ := h3 f v e
  cases e0 : us0.lookup f with
  | none => rw [(h5 f).mp e0] at e1; cases e1
  | some v0 =>
    obtain ⟨d', e3, e4⟩ := h4 f v0 e0
    rw [e1] at e3; cases e3
    exact ⟨d, e1, Rep.back p e4 e2⟩
/-- the cells of the callee are let go -/
theorem trunc (s0 : SR0 K A μ) (st : Step A n) (sr : SR0 K n (μ1 ++ loc)) (u : Upd μ μ1) : SR0 K ⟨n.Hb, n.H, A.al, n.ph⟩ μ1 ∧ Step A ⟨n.Hb, n.H, A.al, n.ph⟩ := by
  have hl : A.al.length = μ1.length := s0.len.trans u.1.symm
  have hsub : ∀ a ∈ A.al, a ∈ n.al := fun a h => st.pre.subset h
  refine ⟨⟨sr.same, hl, s0.nd, fun i a c e1 e2 => ?_, fun a ha => sr.alh a (hsub a ha), fun i j x y e1 e2 => ?_, fun b hb => ?_⟩, ⟨st.same, List.prefix_refl _, st.newb, fun b h => .inl h, st.newp, st.keep, st.dom⟩⟩
  · have e1' : A.al[i]? = some a := e1
    have hi : i < μ1.length := by rw [← hl]; exact (List.getElem?_eq_some_iff.mp e1').1
    have e2' : (μ1 ++ loc)[i]? = some c := by rw [List.getElem?_append_left hi]; exact e2
    have q := sr.cell i a c (pre_get st.pre e1') e2'
    rcases u.2 i c e2 with h | h
    · have q0 := s0.cell i a c e1' h
      cases c with
      | gone => trivial
      | lst ds => obtain ⟨h0, vs, h1, h2⟩ := q; obtain ⟨_, vs0, _, h3⟩ := q0; exact ⟨h0, vs, h1, Reps.back st.pre h3 h2⟩
      | dct ds => obtain ⟨h0, vs, h1, hk, h2⟩ := q; obtain ⟨_, vs0, _, _, h3⟩ := q0; exact ⟨h0, vs, h1, hk, Reps.back st.pre h3 h2⟩
      | ins C ds => obtain ⟨h0, dx, vs, h1, hk, h2⟩ := q; obtain ⟨_, _, vs0, _, _, h3⟩ := q0; exact ⟨h0, dx, vs, h1, hk, Reps.back st.pre h3 h2⟩
      | orc k => exact q
      | exc dd fs => obtain ⟨h0, he, us, h1, h2, h3⟩ := q; obtain ⟨_, _, us0, _, h5, h4⟩ := q0; exact ⟨h0, he, us, h1, h2, exc_back st.pre h5 h4 h3⟩
    · cases c with
      | gone => trivial
      | lst ds => obtain ⟨h0, vs, h1, h2⟩ := q; exact ⟨h0, vs, h1, h2.any h⟩
      | dct ds => obtain ⟨h0, vs, h1, hk, h2⟩ := q; exact ⟨h0, vs, h1, hk, h2.any (by rw [← puK_eq]; exact h)⟩
      | ins C ds => obtain ⟨h0, dx, vs, h1, hk, h2⟩ := q; exact ⟨h0, dx, vs, h1, hk, h2.any (by rw [← puF_eq]; exact h)⟩
      | orc k => exact q
      | exc dd fs => obtain ⟨h0, he, us, h1, h2, h3⟩ := q; exact ⟨h0, he, us, h1, h2, fun f v e => let ⟨d, e1, e2⟩ := h3 f v e; ⟨d, e1, e2.any (puF_mem h e1)⟩⟩
  · have q : ∀ (i : Nat) x, μ1[i]? = some (.orc x) → (μ1 ++ loc)[i]? = some (.orc x) := fun i x e => by
      rw [List.getElem?_append_left (List.getElem?_eq_some_iff.mp e).1]; exact e
    exact sr.orc1 i j x y (q i x e1) (q j y e2)
  · obtain ⟨h1, h2, h3⟩ := sr.phb b hb
    exact ⟨h1, fun z => h2 (hsub b z), h3⟩
theorem new_at (s0 : SR0 K A μ) (st : Step A n) (sr : SR0 K n (μ1 ++ loc)) (u : Upd μ μ1) {l : Nat} {a : Addr} (h : n.al[μ1.length + l]? = some a) : a ∉ A.al ∧ A.H a = none := by
  have h1 : a ∉ A.al := fun z => by
    obtain ⟨i, hi, e⟩ := List.getElem_of_mem z
    have e1 : A.al[i]? = some a := by rw [List.getElem?_eq_getElem hi, e]
    have := nodup_get sr.nd (pre_get st.pre e1) h
    have := s0.len
    have := u.1
    omega
  refine ⟨h1, ?_⟩
  rcases st.newa a (List.mem_of_getElem? h) with z | z
  · exact absurd z h1
  · exact z
/-- one of them becomes data -/
theorem frozen (s0 : SR0 K A μ) (st : Step A n) (sr : SR0 K n (μ1 ++ loc)) (u : Upd μ μ1) {l : Nat} {a : Addr} {o : HO} (h : n.al[μ1.length + l]? = some a) (ho : n.H a = some o) (hb : n.Hb a = none) :
    SR0 K ⟨upd n.Hb a o, n.H, A.al, n.ph⟩ μ1 ∧ Step A ⟨upd n.Hb a o, n.H, A.al, n.ph⟩ := by
  obtain ⟨t1, t2⟩ := trunc s0 st sr u
  obtain ⟨na, nH⟩ := new_at s0 st sr u h
  have su : Same n.Hb (upd n.Hb a o) := same_upd hb
  refine ⟨⟨fun b v e => ?_, t1.len, t1.nd, fun i b c e1 e2 => ?_, t1.alh, t1.orc1, fun b hb' => ?_⟩, ⟨t2.same.trans (Same.l su), t2.pre, fun b v e => ?_, t2.newa, t2.newp, t2.keep, t2.dom⟩⟩
  · by_cases hba : b = a
    · subst hba
      have e' : upd n.Hb b o b = some v := e
      rw [upd_same] at e'; cases e'; exact ho
    · have e' : upd n.Hb a o b = some v := e
      rw [upd_ne hba] at e'; exact sr.same _ _ e'
  · have hne : b ≠ a := fun z => na (z ▸ List.mem_of_getElem? e1)
    exact (t1.cell i b c e1 e2).grow (n' := ⟨upd n.Hb a o, n.H, A.al, n.ph⟩) rfl (fun z => (upd_ne hne).trans z) su (List.prefix_refl _) rfl fun _ _ => rfl
  · obtain ⟨h1, h2, h3⟩ := t1.phb b hb'
    have hne : b ≠ a := fun z => by
      subst z
      exact (sr.phb b hb').2.1 (List.mem_of_getElem? h)
    exact ⟨(upd_ne hne).trans h1, h2, h3⟩
  · by_cases hba : b = a
    · subst hba; exact .inr (.inl nH)
    · have e' : upd n.Hb a o b = some v := e
      rw [upd_ne hba] at e'; exact t2.newb b v e'
/-- one of them is handed on -/
theorem handed (s0 : SR0 K A μ) (st : Step A n) (sr : SR0 K n (μ1 ++ loc)) (u : Upd μ μ1) {l : Nat} {a : Addr} {c : Cell} (h : n.al[μ1.length + l]? = some a) (hc : loc[l]? = some c) (hp : c.pu = true) (ho : ∀ k, c ≠ .orc k) :
    SR0 K ⟨n.Hb, n.H, A.al ++ [a], n.ph⟩ (μ1 ++ [c]) ∧ Step A ⟨n.Hb, n.H, A.al ++ [a], n.ph⟩ := by
  obtain ⟨t1, t2⟩ := trunc s0 st sr u
  obtain ⟨na, nH⟩ := new_at s0 st sr u h
  have hl : A.al.length = μ1.length := s0.len.trans u.1.symm
  refine ⟨⟨t1.same, by simp [hl], ?_, fun i b d e1 e2 => ?_, fun b hb => ?_, fun i j x y e1 e2 => ?_, fun b hb' => ?_⟩, ⟨t2.same, List.prefix_append _ _, t2.newb, fun b hb => ?_, t2.newp, t2.keep, t2.dom⟩⟩
  · show (A.al ++ [a]).Nodup
    rw [List.nodup_append]
    exact ⟨s0.nd, by simp, fun b hb c hc z => by rw [List.mem_singleton.mp hc] at z; exact na (z ▸ hb)⟩
  · have e1' : (A.al ++ [a])[i]? = some b := e1
    by_cases hi : i < A.al.length
    · rw [List.getElem?_append_left hi] at e1'
      rw [List.getElem?_append_left (by rw [← hl]; exact hi)] at e2
      exact (t1.cell i b d e1' e2).grow (n' := ⟨n.Hb, n.H, A.al ++ [a], n.ph⟩) rfl (fun z => z) (Same.refl _) (List.prefix_append _ _) rfl fun _ _ => rfl
    · rw [List.getElem?_append_right (by omega)] at e1'
      rw [List.getElem?_append_right (by rw [← hl]; omega), ← hl] at e2
      have hz : i - A.al.length = 0 := by
        have := (List.getElem?_eq_some_iff.mp e1').1
        simp at this; omega
      rw [hz] at e1' e2
      simp at e1' e2
      subst e1'; subst e2
      have q := sr.cell (μ1.length + l) a c h (by rw [List.getElem?_append_right (by omega)]; simpa using hc)
      cases c with
      | gone => trivial
      | lst ds => obtain ⟨h0, vs, h1, h2⟩ := q; exact ⟨h0, vs, h1, h2.any hp⟩
      | dct ds => obtain ⟨h0, vs, h1, hk, h2⟩ := q; exact ⟨h0, vs, h1, hk, h2.any (by rw [← puK_eq]; exact hp)⟩
      | ins C ds => obtain ⟨h0, dx, vs, h1, hk, h2⟩ := q; exact ⟨h0, dx, vs, h1, hk, h2.any (by rw [← puF_eq]; exact hp)⟩
      | orc k => exact absurd rfl (ho k)
      | exc dd fs => obtain ⟨h0, he, us, h1, h2, h3⟩ := q; exact ⟨h0, he, us, h1, h2, fun f v e => let ⟨d, e1, e2⟩ := h3 f v e; ⟨d, e1, e2.any (puF_mem hp e1)⟩⟩
  · rcases List.mem_append.mp hb with z | z
    · exact t1.alh b z
    · rw [List.mem_singleton.mp z]; exact sr.alh a (List.mem_of_getElem? h)
  · have q : ∀ (i : Nat) x, (μ1 ++ [c])[i]? = some (.orc x) → μ1[i]? = some (.orc x) := fun i x e => by
      by_cases hi : i < μ1.length
      · rw [List.getElem?_append_left hi] at e; exact e
      · rw [List.getElem?_append_right (by omega)] at e
        have hz : i - μ1.length = 0 := by
          have := (List.getElem?_eq_some_iff.mp e).1
          simp at this; omega
        rw [hz] at e; simp at e
        exact absurd e (ho x)
    exact t1.orc1 i j x y (q i x e1) (q j y e2)
  · obtain ⟨h1, h2, h3⟩ := t1.phb b hb'
    refine ⟨h1, fun z => ?_, h3⟩
    rcases List.mem_append.mp z with z | z
    · exact h2 z
    · rw [List.mem_singleton.mp z] at hb'
      exact (sr.phb a hb').2.1 (List.mem_of_getElem? h)
  · rcases List.mem_append.mp hb with z | z
    · exact .inl z
    · rw [List.mem_singleton.mp z]; exact .inr nH
/-- all of the callee's cells become data -/
def meltH (n : Now) (m : Nat) : Hp := fun a => if a ∈ n.al.drop m then n.H a else n.Hb a
theorem drop_idx {l : List Addr} {m : Nat} {a : Addr} (h : a ∈ l.drop m) : ∃ j, l[m + j]? = some a := by
  obtain ⟨j, hj, e⟩ := List.getElem_of_mem h
  refine ⟨j, ?_⟩
  rw [← List.getElem?_drop, List.getElem?_eq_getElem hj, e]
theorem melted (s0 : SR0 K A μ) (st : Step A n) (sr : SR0 K n (μ1 ++ loc)) (u : Upd μ μ1) :
    SR0 K ⟨meltH n μ1.length, n.H, A.al, n.ph⟩ μ1 ∧ Step A ⟨meltH n μ1.length, n.H, A.al, n.ph⟩ ∧ Same n.Hb (meltH n μ1.length) := by
  obtain ⟨t1, t2⟩ := trunc s0 st sr u
  have hl : A.al.length = μ1.length := s0.len.trans u.1.symm
  have nb : ∀ a, a ∈ n.al.drop μ1.length → a ∉ A.al ∧ A.H a = none := fun a h => by
    obtain ⟨j, e⟩ := drop_idx h
    exact new_at s0 st sr u e
  have su : Same n.Hb (meltH n μ1.length) := fun a o e => by
    unfold meltH
    split
    · exact sr.same _ _ e
    · exact e
  refine ⟨⟨fun b v e => ?_, t1.len, t1.nd, fun i b c e1 e2 => ?_, t1.alh, t1.orc1, fun b hb' => ?_⟩, ⟨t2.same.trans (Same.l su), t2.pre, fun b v e => ?_, t2.newa, t2.newp, t2.keep, t2.dom⟩, su⟩
  · have e' : meltH n μ1.length b = some v := e
    unfold meltH at e'
    split at e'
    · exact e'
    · exact sr.same _ _ e'
  · have hne : b ∉ n.al.drop μ1.length := fun z => (nb b z).1 (List.mem_of_getElem? e1)
    exact (t1.cell i b c e1 e2).grow (n' := ⟨meltH n μ1.length, n.H, A.al, n.ph⟩) rfl (fun z => by show meltH n μ1.length b = none; unfold meltH; rw [if_neg hne]; exact z) su (List.prefix_refl _) rfl fun _ _ => rfl
  · obtain ⟨h1, h2, h3⟩ := t1.phb b hb'
    have hne : b ∉ n.al.drop μ1.length := fun z => (sr.phb b hb').2.1 (List.mem_of_mem_drop z)
    exact ⟨by show meltH n μ1.length b = none; unfold meltH; rw [if_neg hne]; exact h1, h2, h3⟩
  · have e' : meltH n μ1.length b = some v := e
    by_cases hm : b ∈ n.al.drop μ1.length
    · exact .inr (.inl (nb b hm).2)
    · unfold meltH at e'
      rw [if_neg hm] at e'
      exact t2.newb b v e'
theorem at_melt {m l : Nat} {a : Addr} {o : HO} (h : n.al[l]? = some a) (hm : m ≤ l) (ho : n.H a = some o) : meltH n m a = some o := by
  unfold meltH
  rw [if_pos]
  · exact ho
  · have : (n.al.drop m)[l - m]? = some a := by rw [List.getElem?_drop, show m + (l - m) = l from by omega]; exact h
    exact List.mem_of_getElem? this
mutual
theorem melt_rep {m : Nat} {al : List Addr} (sr : SR0 K n μ) (su : Same n.Hb (meltH n m)) : ∀ {d e : D}, Fz m μ d e → ∀ {v : V}, Rep K n.Hb n.al v d → Rep K (meltH n m) al v e
  | _, _, .pu h, _, r => (r.any h).mono su (List.prefix_refl _)
  | _, _, .cell hm e f, _, .ref hl => by
    obtain ⟨_, vs, h1, h2⟩ := sr.cell _ _ _ hl e
    exact .lst (at_melt hl hm h1) (melt_reps sr su f h2)
  | _, _, .dcell (kvs := kvs) hm e f, _, .ref hl => by
    obtain ⟨_, vs, h1, h2, h3⟩ := sr.cell _ _ _ hl e
    exact .dct (.inl (at_melt hl hm h1)) h2 (melt_reps sr su f h3)
  | _, _, .icell (fs := fs) hm e f, _, .ref hl => by
    obtain ⟨_, dx, vs, h1, h2, h3⟩ := sr.cell _ _ _ hl e
    exact .ins (at_melt hl hm h1) h2 (melt_reps sr su f h3)
  | _, _, .lst f, _, .lst h r => .lst (su _ _ h) (melt_reps sr su f r)
  | _, _, .tup f, _, .tup h r => .tup (su _ _ h) (melt_reps sr su f r)
theorem melt_reps {m : Nat} {al : List Addr} (sr : SR0 K n μ) (su : Same n.Hb (meltH n m)) : ∀ {d e : List D}, FzL m μ d e → ∀ {v : List V}, Reps K n.Hb n.al v d → Reps K (meltH n m) al v e
  | _, _, .nil, _, .nil => .nil
  | _, _, .cons f g, _, .cons r s => .cons (melt_rep sr su f r) (melt_reps sr su g s)
end
theorem zip_maps {α β γ : Type} (l : List (α × β)) (m : List (α × γ)) (h : l.map (·.1) = m.map (·.1)) : (m.map (·.1)).zip (l.map (·.2)) = l := by
  rw [← h]
  induction l with
  | nil => rfl
  | cons a l ih => exact (by simp only [List.map_cons, List.zip_cons_cons]; congr 1; exact List.zip_of_prod rfl rfl |>.symm ▸ rfl)
end
end DV
namespace DV
open PySem PySem.Spec PyProof.Rows L2
def start0 (N : List Str) (ds : List D) : Gam := ds.map some ++ List.replicate (N.length - ds.length) none
section
variable {K : PySem.W.Frag} {n : Now}
theorem gr_start {N : List Str} {vs : List V} {ds : List D} (r : Reps K n.Hb n.al vs ds) : GR K n (start0 N ds) (L2.start N vs) := by
  have hl := r.length
  refine ⟨by simp [start0, L2.start, hl], fun i d h => ?_⟩
  unfold start0 at h
  unfold L2.start
  by_cases hi : i < ds.length
  · rw [List.getElem?_append_left (by simpa using hi), List.getElem?_map] at h
    rw [List.getElem?_append_left (by simp [hl]; exact hi), List.getElem?_map]
    cases e : ds[i]? with
    | none => rw [e] at h; cases h
    | some d' =>
      rw [e] at h
      have h' : d' = d := by simpa using h
      subst h'
      obtain ⟨v, h1, h2⟩ := r.get e
      exact ⟨v, by rw [h1]; rfl, h2⟩
  · rw [List.getElem?_append_right (by simpa using hi)] at h
    have := List.mem_of_getElem? h
    rw [List.mem_replicate] at this
    exact absurd this.2 (by simp)
end
theorem fn_end {K : PySem.W.Frag} {A n : Now} {μ : Mu} {Qd : D → Mu → Prop} {Q : VK} (s0 : SR0 K A μ) (hq : LV K A Qd Q) {v : V} {d : D} {μ' : Mu} (st : Step A n) (sr : SR0 K n μ') (rp : Rep K n.Hb n.al v d) (h : FnEnd μ d μ' Qd) : Q v n.H := by
  rcases h with q | ⟨μ1, loc, rfl, u, h⟩
  · exact hq n v d μ' st sr rp q
  obtain ⟨t1, t2⟩ := trunc s0 st sr u
  have hl : A.al.length = μ1.length := s0.len.trans u.1.symm
  rcases h with ⟨hp, q⟩ | ⟨l, rfl, hlt, q⟩ | ⟨l, ds, rfl, e, hp, q⟩ | ⟨l, ds, rfl, e, hp, q⟩ | ⟨l, ds, rfl, e, hp, q⟩ | ⟨l, ds, rfl, e, hp, q⟩ | ⟨e, hf, q⟩
  · exact hq ⟨n.Hb, n.H, A.al, n.ph⟩ v d μ1 t2 t1 (rp.any hp) q
  · refine hq ⟨n.Hb, n.H, A.al, n.ph⟩ v (.ref l) μ1 t2 t1 ?_ q
    cases rp with
    | ref h1 =>
      refine .ref ?_
      show A.al[l]? = _
      obtain ⟨t, ht⟩ := st.pre
      rw [← ht, List.getElem?_append_left (by omega)] at h1
      exact h1
  rotate_right
  · obtain ⟨z1, z2, z3⟩ := melted s0 st sr u
    exact hq ⟨meltH n μ1.length, n.H, A.al, n.ph⟩ _ e _ z2 z1 (melt_rep sr z3 hf rp) q
  all_goals
    cases rp with
    | ref h1 =>
      have hc : (μ1 ++ loc)[μ1.length + l]? = loc[l]? := (by rw [List.getElem?_append_right (by omega)]; simp)
      rw [e] at hc
      have q1 := sr.cell _ _ _ h1 hc
      first
        | (obtain ⟨z1, z2⟩ := handed s0 st sr u h1 e hp (fun k z => by cases z)
           refine hq ⟨n.Hb, n.H, A.al ++ [_], n.ph⟩ _ (.ref μ1.length) _ z2 z1 (.ref ?_) q
           show (A.al ++ [_])[μ1.length]? = _
           rw [← hl]; simp)
        | (obtain ⟨hb, vs, hv, hr⟩ := q1
           obtain ⟨z1, z2⟩ := frozen s0 st sr u h1 hv hb
           refine hq ⟨upd n.Hb _ _, n.H, A.al, n.ph⟩ _ (.lst ds) _ z2 z1 (.lst upd_same ((hr.any hp).mono (same_upd hb) (List.prefix_refl _))) q)
        | (obtain ⟨hb, vs, hv, hk, hr⟩ := q1
           obtain ⟨z1, z2⟩ := frozen s0 st sr u h1 hv hb
           have hz : ds = (vs.map (·.1)).zip (ds.map (·.2)) := (zip_maps ds vs hk).symm
           refine hq ⟨upd n.Hb _ _, n.H, A.al, n.ph⟩ _ (.dct ds) _ z2 z1 ?_ q
           rw [hz]
           exact .dct (.inl upd_same) rfl ((hr.any (by rw [← puK_eq]; exact hp)).mono (same_upd hb) (List.prefix_refl _)))
theorem exr_trunc {K : PySem.W.Frag} {A n : Now} {al : List Addr} {cls : Value} {dd : Option Addr} {x : Exn} (h : ExR K A n cls dd x) (hp : D.puF x.fs = true) (hal : ∀ a ∈ al, a ∈ n.al) : ExR K A ⟨n.Hb, n.H, al, n.ph⟩ cls dd x := by
  obtain ⟨h1, h⟩ := h
  rcases h with h | ⟨a, us, h2, hA, hh, h3, h4, h5⟩
  · exact ⟨h1, .inl h⟩
  refine ⟨h1, .inr ⟨a, us, h2, hA, ⟨hh.1, fun z => hh.2.1 (hal a z), hh.2.2⟩, h3, h4, fun f v e => ?_⟩⟩
  obtain ⟨d, e1, e2⟩ := h5 f v e
  exact ⟨d, e1, e2.any (puF_mem hp e1)⟩
section
variable {P : Program} {w : World} {K : PySem.W.Frag} {mg : Str → Option Value} {base : Heap}
/-- THE RULE for a def, deep: its body's deep form, and the reading of it -/
theorem fun_deep {x qual : Str} {st : Stmt} {f : Addr} {fd : FuncData} {N ps : List Str} {k : Nat} {S : DSp} {T : DTS} (F : Fun K x qual st f fd) (Sc : FnScope N ps (defScope st)) (len : ∀ ds μ Q E, S ds μ Q E → ds.length = ps.length)
    (hb : ∀ (cdv : Value) (A : Around) (outer : List Env) (s : Shared) (H : Hp) (E : XK), Room k (A.deeper (envOfC qual (defScope st) s.heap.objs.size f cdv)) →
      DSs (cxOf (L2.CX P w) P w K mg base N qual (defScope st) f cdv A outer s H E) (fun cls d _ H => E cls d H) (defBody st) T)
    (hr : ∀ ds μ Q E, S ds μ Q E → T (dFn μ Q E) (start0 N ds) μ) : FnOk P w K mg base (L2.CX P w) (k + 1) f fd ps (spOf K S) := by
  refine F.okX Sc (fun vs H Q E h => ?_) (fun cdv A outer s H vs Q E hroom h => ⟨_, hb cdv A outer s H E hroom, ?_⟩)
  · obtain ⟨n, ds, μ, Qd, Ed, _, _, r, h, _⟩ := h
    rw [r.length]; exact len ds μ Qd Ed h
  · obtain ⟨n, ds, μ, Qd, Ed, hH, sr, r, h, hq, hx⟩ := h
    subst hH
    refine ⟨n, n, start0 N ds, μ, dFn μ Qd Ed, rfl, Step.refl n, sr, gr_start r, hr ds μ Qd Ed h, ⟨fun n' Γ σ μ' s' r' _ q => ?_, fun _ _ _ _ _ _ _ q => q.elim, fun _ _ _ _ _ _ _ q => q.elim, fun n' v d μ' s' r' p q => ?_, fun n' Γ σ μ' cls dd y s' r' _ ex q => ?_⟩⟩
    · exact fn_end sr hq s' r' .non q
    · exact fn_end sr hq s' r' p q
    · obtain ⟨μ1, loc, rfl, u, hp, q⟩ := q
      obtain ⟨t1, t2⟩ := trunc sr s' r' u
      exact hx ⟨n'.Hb, n'.H, n.al, n'.ph⟩ cls dd y μ1 t2 t1 (exr_trunc ex hp fun a h => s'.pre.subset h) q
end
end DV
namespace DV
open PySem PySem.Spec PyProof.Rows L2
/-! ### what is walked -/
def Gd (src : Option (Nat × List D)) (μ : Mu) : Prop := match src with
  | none => True
  | some (l, ds) => μ[l]? = some (.lst ds)
/-- what a walk asks of a later look: what was fixed stays, the cells stand where they stood -/
structure SP (n n' : Now) : Prop where
  same : SameL n.Hb n'.Hb
  pre : n.al <+: n'.al
theorem Step.sp {n n' : Now} (s : Step n n') : SP n n' := ⟨s.same, s.pre⟩
theorem SP.rep {K : PySem.W.Frag} {n n' : Now} (s : SP n n') {v : V} {d : D} (h : Rep K n.Hb n.al v d) : Rep K n'.Hb n'.al v d := h.monoL s.same s.pre
theorem SP.trans {n n' n2 : Now} (a : SP n n') (b : SP n' n2) : SP n n2 := ⟨a.same.trans b.same, a.pre.trans b.pre⟩
structure DWalk (K : PySem.W.Frag) (n : Now) (J : It) (src : Option (Nat × List D)) (ds : List D) : Prop where
  goes : ∀ n2 μ2 i, SP n n2 → SR0 K n2 μ2 → Gd src μ2 → i < ds.length → J.go i n2.H
  stops : ∀ n2 μ2, SP n n2 → SR0 K n2 μ2 → Gd src μ2 → J.stop ds.length n2.H
  yields : ∀ n2 μ2 i x H' d, SP n n2 → SR0 K n2 μ2 → Gd src μ2 → ds[i]? = some d → J.yld i n2.H x H' → ∃ n3, n3.H = H' ∧ Step n2 n3 ∧ SR0 K n3 μ2 ∧ Rep K n3.Hb n3.al x d
theorem DWalk.step {K : PySem.W.Frag} {n n' : Now} {J : It} {src : Option (Nat × List D)} {ds : List D} (w : DWalk K n J src ds) (s : Step n n') : DWalk K n' J src ds :=
  ⟨fun n2 μ2 i s2 => w.goes n2 μ2 i (s.sp.trans s2), fun n2 μ2 s2 => w.stops n2 μ2 (s.sp.trans s2), fun n2 μ2 i x H' d s2 => w.yields n2 μ2 i x H' d (s.sp.trans s2)⟩
abbrev DTI := Gam → Mu → (Option (Nat × List D) → List D → Mu → Prop) → (Exn → Mu → Prop) → Prop
def liftI (K : PySem.W.Frag) (W : WX) (f : DTI) : TI := fun σ H R => ∃ n Γ μ Qd Ed, n.H = H ∧ SR0 K n μ ∧ GR K n Γ σ ∧ f Γ μ Qd Ed ∧
  (∀ n' src ds μ' J, Step n n' → SR0 K n' μ' → DWalk K n' J src ds → Qd src ds μ' → R J n'.H) ∧ XLink K W n Γ σ Ed
abbrev DI (X : Cx) (W : WX) (tg iter : Expr) (f : DTI) : Prop := PI X tg iter (liftI X.K W f)
/-- the signs of a text -/
def signs (z : Str) : List D := z.cps.toList.map fun c => D.str ⟨#[c]⟩
def dIter (f : DTE) : DTI := fun Γ μ Q E => f Γ μ (fun d μ1 => match d with
  | .lst ds => Q none ds μ1
  | .scr ns => Q none (ns.map D.int) μ1
  | .tup ds => Q none ds μ1
  | .str z => Q none (signs z) μ1
  | .ref l => (match μ1[l]? with | some (.lst ds) => Q (some (l, ds)) ds μ1 | _ => False)
  | _ => False) E
def irng (lo : Int) (n : Nat) : List D := (List.range n).map fun (i : Nat) => D.int (lo + i)
def dRange1 (f : DTE) : DTI := fun Γ μ Q E => f Γ μ (fun d μ1 => match d with
  | .int j => (-(2 ^ 62) ≤ j ∧ j < 2 ^ 62) ∧ Q none (irng 0 j.toNat) μ1
  | _ => False) E
def dRange2 (f g : DTE) : DTI := fun Γ μ Q E => f Γ μ (fun d μ1 => g Γ μ1 (fun e μ2 => match d, e with
  | .int i, .int j => (-(2 ^ 62) ≤ i ∧ i < 2 ^ 62 ∧ -(2 ^ 62) ≤ j ∧ j < 2 ^ 62) ∧ Q none (irng i (j - i).toNat) μ2
  | _, _ => False) E) E
section
variable {K : PySem.W.Frag} {n : Now} {μ : Mu}
theorem dw_list {a : Addr} {vs : List V} {ds : List D} (h : n.Hb a = some (.lst vs)) (r : Reps K n.Hb n.al vs ds) : DWalk K n (Itl K a) none ds := by
  have hl := r.length
  have w : Walk (Itl K a) vs.length (fun H => SqL K H a vs) (YAt vs) := walk_list
  have q : ∀ n2 μ2, SP n n2 → SR0 K n2 μ2 → SqL K n2.H a vs := fun n2 μ2 s sr => SqL.of (sr.same _ _ (s.same.lst h))
  refine ⟨fun n2 μ2 i s sr _ hi => w.goes i _ (hl ▸ hi) (q n2 μ2 s sr), fun n2 μ2 s sr _ => hl ▸ w.stops _ (q n2 μ2 s sr), fun n2 μ2 i x H' d s sr _ hd y => ?_⟩
  obtain ⟨rfl, hx⟩ := w.yields i _ x H' (hl ▸ (List.getElem?_eq_some_iff.mp hd).1) (q n2 μ2 s sr) y
  obtain ⟨v, h1, h2⟩ := r.get hd
  rw [hx] at h1; cases h1
  exact ⟨n2, rfl, Step.refl _, sr, s.rep h2⟩
theorem dw_scr {a : Addr} {ns : List Int} (h : SqL K n.Hb a (ns.map V.int)) : DWalk K n (Itl K a) none (ns.map D.int) := by
  have w : Walk (Itl K a) (ns.map V.int).length (fun H => SqL K H a (ns.map V.int)) (YAt (ns.map V.int)) := walk_list
  have hl : (ns.map V.int).length = (ns.map D.int).length := by simp
  have q : ∀ n2 μ2, SP n n2 → SR0 K n2 μ2 → SqL K n2.H a (ns.map V.int) := fun n2 μ2 s sr => sr.same.seq (s.same.seq h)
  refine ⟨fun n2 μ2 i s sr _ hi => w.goes i _ (hl ▸ hi) (q n2 μ2 s sr), fun n2 μ2 s sr _ => hl ▸ w.stops _ (q n2 μ2 s sr), fun n2 μ2 i x H' d s sr _ hd y => ?_⟩
  obtain ⟨rfl, hx⟩ := w.yields i _ x H' (hl ▸ (List.getElem?_eq_some_iff.mp hd).1) (q n2 μ2 s sr) y
  obtain ⟨v, h1, h2⟩ := (reps_ints (K := K) (Hb := n2.Hb) (al := n2.al) ns).get hd
  rw [hx] at h1; cases h1
  exact ⟨n2, rfl, Step.refl _, sr, h2⟩
theorem dw_tup {a : Addr} {vs : List V} {ds : List D} (h : n.Hb a = some (.tup vs)) (r : Reps K n.Hb n.al vs ds) : DWalk K n (Itt K a) none ds := by
  have hl := r.length
  have w : Walk (Itt K a) vs.length (fun H => SqT K H a vs) (YAt vs) := walk_tup
  have q : ∀ n2 μ2, SP n n2 → SR0 K n2 μ2 → SqT K n2.H a vs := fun n2 μ2 s sr => SqT.of (sr.same _ _ (s.same.tup h))
  refine ⟨fun n2 μ2 i s sr _ hi => w.goes i _ (hl ▸ hi) (q n2 μ2 s sr), fun n2 μ2 s sr _ => hl ▸ w.stops _ (q n2 μ2 s sr), fun n2 μ2 i x H' d s sr _ hd y => ?_⟩
  obtain ⟨rfl, hx⟩ := w.yields i _ x H' (hl ▸ (List.getElem?_eq_some_iff.mp hd).1) (q n2 μ2 s sr) y
  obtain ⟨v, h1, h2⟩ := r.get hd
  rw [hx] at h1; cases h1
  exact ⟨n2, rfl, Step.refl _, sr, s.rep h2⟩
theorem dw_str {z : Str} : DWalk K n (Its z) none (signs z) := by
  have hl : (signs z).length = z.cps.size := by simp [signs]
  have w : Walk (Its z) z.cps.size (fun _ => True) _ := walk_str
  refine ⟨fun n2 μ2 i s sr _ hi => w.goes i _ (hl ▸ hi) trivial, fun n2 μ2 s sr _ => hl ▸ w.stops _ trivial, fun n2 μ2 i x H' d s sr _ hd y => ?_⟩
  obtain ⟨rfl, c, hc, rfl⟩ := w.yields i _ x H' (hl ▸ (List.getElem?_eq_some_iff.mp hd).1) trivial y
  refine ⟨n2, rfl, Step.refl _, sr, ?_⟩
  have e : (signs z)[i]? = some (D.str ⟨#[c]⟩) := by
    unfold signs
    rw [List.getElem?_map, Array.getElem?_toList, hc]; rfl
  rw [hd] at e; cases e
  exact .str _
theorem dw_range {lo : Int} {k : Nat} : DWalk K n (Itr lo k) none (irng lo k) := by
  have hl : (irng lo k).length = k := by simp [irng]
  have w : Walk (Itr lo k) k (fun _ => True) _ := walk_range
  refine ⟨fun n2 μ2 i s sr _ hi => w.goes i _ (hl ▸ hi) trivial, fun n2 μ2 s sr _ => by rw [hl]; exact w.stops _ trivial, fun n2 μ2 i x H' d s sr _ hd y => ?_⟩
  have hi : i < k := hl ▸ (List.getElem?_eq_some_iff.mp hd).1
  obtain ⟨rfl, rfl⟩ := w.yields i _ x H' hi trivial y
  refine ⟨n2, rfl, Step.refl _, sr, ?_⟩
  have e : (irng lo k)[i]? = some (D.int (lo + i)) := by
    unfold irng
    rw [List.getElem?_map, List.getElem?_range hi]; rfl
  rw [hd] at e; cases e
  exact .int _
theorem dw_cell {l : Nat} {a : Addr} {ds : List D} (hl : n.al[l]? = some a) : DWalk K n (Itl K a) (some (l, ds)) ds := by
  have q : ∀ n2 μ2, SP n n2 → SR0 K n2 μ2 → Gd (some (l, ds)) μ2 → ∃ vs, SqL K n2.H a vs ∧ Reps K n2.Hb n2.al vs ds := fun n2 μ2 s sr g => by
    obtain ⟨_, vs, h1, h2⟩ := sr.cell l a (.lst ds) (pre_get s.pre hl) g
    exact ⟨vs, SqL.of h1, h2⟩
  have w : ∀ vs : List V, Walk (Itl K a) vs.length (fun H => SqL K H a vs) (YAt vs) := fun vs => walk_list
  refine ⟨fun n2 μ2 i s sr g hi => ?_, fun n2 μ2 s sr g => ?_, fun n2 μ2 i x H' d s sr g hd y => ?_⟩
  · obtain ⟨vs, h1, h2⟩ := q n2 μ2 s sr g
    exact (w vs).goes i _ (h2.length ▸ hi) h1
  · obtain ⟨vs, h1, h2⟩ := q n2 μ2 s sr g
    exact h2.length ▸ (w vs).stops _ h1
  · obtain ⟨vs, h1, h2⟩ := q n2 μ2 s sr g
    obtain ⟨rfl, hx⟩ := (w vs).yields i _ x H' (h2.length ▸ (List.getElem?_eq_some_iff.mp hd).1) h1 y
    obtain ⟨v, e1, e2⟩ := h2.get hd
    rw [hx] at e1; cases e1
    exact ⟨n2, rfl, Step.refl _, sr, e2⟩
end
def iAny (K : PySem.W.Frag) (tl : TE) : TI := fun σ H R => tl σ H fun x H1 => (∃ a, x = .ref a ∧ (∃ xs, SqL K H1 a xs) ∧ R (Itl K a) H1) ∨ (∃ a, x = .ref a ∧ (∃ xs, SqT K H1 a xs) ∧ R (Itt K a) H1) ∨ ∃ z, x = .str z ∧ R (Its z) H1
section
variable {X : Cx} {W : WX} {tg e a b : Expr} {p pos : Pos} {f g : DTE}
theorem pi_any {tl : TE} (hl : PE X e tl) : PI X tg e (iAny X.K tl) := by
  constructor
  intro pins s σ H R I h
  refine thn (hl.run pins s σ H _ I h) ?_
  rintro v s1 ⟨x, H1, I1, r1, q1⟩
  rcases q1 with ⟨a, rfl, ⟨xs, hq⟩, q⟩ | ⟨a, rfl, ⟨xs, hq⟩, q⟩ | ⟨z, rfl, q⟩
  · cases r1
    obtain ⟨its, rv, pl, hz⟩ := I1.list hq
    exact wpAny_pyIter_list pl.isList (pi_one (tk := s1.toks) I1 _ (turn_list a _) ⟨_, Heap.get?_push_size _ rfl, rfl, rfl⟩ q)
  · cases r1
    obtain ⟨its, rv, pl, hz⟩ := I1.tuple hq
    exact wpAny_pyIter_tuple (show s1.heap.IsTuple a its.toArray from pl) (pi_one (tk := s1.toks) I1 _ (turn_tuple a _) ⟨_, Heap.get?_push_size _ rfl, rfl, rfl⟩ q)
  · obtain ⟨t, rfl⟩ := r1
    cases ha : z.cps.all (· < 128) with
    | false => exact wpAny_pyIter_wide ha (pi_one (tk := s1.toks) I1 _ (turn_str _ z t "str_iterator" (.inr rfl)) ⟨_, Heap.get?_push_size _ rfl, rfl, rfl⟩ q)
    | true => exact wpAny_pyIter_ascii ha (pi_one (tk := s1.toks) I1 _ (turn_str _ z t "str_ascii_iterator" (.inl rfl)) ⟨_, Heap.get?_push_size _ rfl, rfl, rfl⟩ q)
theorem PI.imp {t t' : TI} (h : PI X tg e t) (hi : ∀ σ H R, t' σ H R → t σ H R) : PI X tg e t' := ⟨fun pins s σ H R I q => h.run pins s σ H R I (hi _ _ _ q)⟩
theorem di_any (h : DE X W e f) : DI X W tg e (dIter f) := PI.imp (pi_any h) fun σ H R ⟨n, Γ, μ, Qd, Ed, hH, sr, gr, h, hq, hx⟩ => by
  subst hH
  refine lift_go sr gr h (fun n1 x dx μ1 s1 r1 p1 q1 => ?_) hx
  cases p1 with
  | lst h1 h2 => exact .inl ⟨_, rfl, ⟨_, SqL.of (r1.same _ _ h1)⟩, hq n1 _ _ μ1 _ s1 r1 (dw_list h1 h2) q1⟩
  | tup h1 h2 => exact .inr (.inl ⟨_, rfl, ⟨_, SqT.of (r1.same _ _ h1)⟩, hq n1 _ _ μ1 _ s1 r1 (dw_tup h1 h2) q1⟩)
  | scr h1 => exact .inl ⟨_, rfl, ⟨_, r1.same.seq h1⟩, hq n1 _ _ μ1 _ s1 r1 (dw_scr h1) q1⟩
  | str z => exact .inr (.inr ⟨_, rfl, hq n1 _ _ μ1 _ s1 r1 dw_str q1⟩)
  | @ref l a hl =>
    dsimp only at q1
    split at q1
    · rename_i ds e
      obtain ⟨_, vs, e1, e2⟩ := r1.cell _ _ _ hl e
      exact .inl ⟨_, rfl, ⟨_, SqL.of e1⟩, hq n1 _ _ μ1 _ s1 r1 (dw_cell hl) q1⟩
    · exact q1.elim
  | _ => exact q1.elim
theorem di_range1 (hg : Gl X "range") (hm : X.mg "range" = none) (ha : DE X W a f) (hs : starEach [a] X.env = [(false, eval a X.env)] := by rfl) (hs2 : starEach [a] X.env = (false, eval a X.env) :: starEach [] X.env := by rfl) : DI X W tg (.Call (.Name "range" p) [a] [] pos) (dRange1 f) :=
  PI.imp (pi_range1 hg hm (pa_cons ha pa_nil hs2) hs) fun σ H R ⟨n, Γ, μ, Qd, Ed, hH, sr, gr, h, hq, hx⟩ => by
  subst hH
  refine lift_go sr gr h (fun n1 x dx μ1 s1 r1 p1 q1 => ?_) hx
  cases p1 with
  | int j => exact ⟨j, rfl, q1.1.1, q1.1.2, hq n1 _ _ μ1 _ s1 r1 dw_range q1.2⟩
  | _ => exact q1.elim
end
/-! ### for -/
def dLoop (src : Option (Nat × List D)) (g : DTG) (body : DTS) : List D → DEnds → Gam → Mu → Prop
  | [], D, Γ, μ => Gd src μ ∧ D.nx Γ μ
  | d :: ds, D, Γ, μ => Gd src μ ∧ g d Γ μ (fun Γ1 μ1 => body { D with nx := dLoop src g body ds D, ct := dLoop src g body ds D, bk := D.nx } Γ1 μ1) (fun x μ1 => D.ex x Γ μ1)
def dFor (fi : DTI) (g : DTG) (body : DTS) : DTS := fun D Γ μ => fi Γ μ (fun src ds μ1 => dLoop src g body ds D Γ μ1) (fun x μ1 => D.ex x Γ μ1)
section
variable {X : Cx} {W : WX} {tg iter c : Expr} {body : List Stmt} {pos : Pos} {fi : DTI} {g : DTG} {T : DTS} {t : DTT}
theorem ds_for (hp : PassesOwn (model X.prog X.w) X.A X.env X.xe) (hc : X.calm = true) (hi : DI X W tg iter fi) (hg : DG X W tg g) (hb : DSs X W body T)
    (hs : ∀ x, foldedSetIterable iter X.env x = pure x := by intro _; rfl) : DS X W (.For tg iter body [] pos) (dFor fi g T) :=
  PS.imp (ps_for hp hc hi hg hb hs) fun Dn σ H ⟨A, n, Γ, μ, Dd, hH, sa, sr, gr, h, l⟩ => by
  subst hH
  refine ⟨n, Γ, μ, _, _, rfl, sr, gr, h, fun n1 src ds μ1 J s1 r1 w q => ?_, l.x sa gr⟩
  -- the walk
  let Pv : Nat → L2.St → Hp → Prop := fun i σ' H' => ∃ n2 Γ2 μ2, n2.H = H' ∧ Step n1 n2 ∧ SR0 X.K n2 μ2 ∧ GR X.K n2 Γ2 σ' ∧ dLoop src g T (ds.drop i) Dd Γ2 μ2
  have hG : ∀ i Γ2 μ2, dLoop src g T (ds.drop i) Dd Γ2 μ2 → Gd src μ2 := fun i Γ2 μ2 z => by
    cases hd : ds.drop i with
    | nil => rw [hd] at z; exact z.1
    | cons d r => rw [hd] at z; exact z.1
  refine ⟨fun i m σ' H' => m = ds.length - i ∧ i ≤ ds.length ∧ Pv i σ' H', ⟨ds.length, by simp, Nat.zero_le _, n1, Γ, μ1, rfl, Step.refl _, r1, gr.step s1, q⟩, ?_⟩
  rintro i m σ' H' ⟨rfl, hi, n2, Γ2, μ2, rfl, s2, r2, g2, q2⟩
  have gd := hG i Γ2 μ2 q2
  by_cases hlt : i < ds.length
  · refine .inr ⟨w.goes n2 μ2 i s2.sp r2 gd hlt, Pv (i + 1), fun σ3 H3 p3 => ⟨ds.length - (i + 1), by omega, rfl, hlt, p3⟩, fun x H3 y => ?_⟩
    rw [List.drop_eq_getElem_cons hlt] at q2
    obtain ⟨n3, rfl, s3, r3, p3⟩ := w.yields n2 μ2 i x H3 ds[i] s2.sp r2 gd (by rw [List.getElem?_eq_getElem hlt]) y
    have st3 : Step A n3 := ((sa.trans s1).trans s2).trans s3
    refine ⟨n3, ds[i], Γ2, μ2, _, _, rfl, r3, g2.step s3, p3, q2.2, fun n4 Γ4 σ4 μ4 s4 r4 g4 q4 => ?_, l.x st3 (g2.step s3)⟩
    -- the body; its way back goes through n4
    refine liftS_go (A := n1) ((s2.trans s3).trans s4) r4 g4 q4 ⟨fun n5 Γ5 σ5 μ5 s5 r5 g5 q5 => ⟨n5, Γ5, μ5, rfl, s5, r5, g5, q5⟩, fun n5 Γ5 σ5 μ5 s5 r5 g5 q5 => l.nx n5 Γ5 σ5 μ5 ((sa.trans s1).trans s5) r5 g5 q5, fun n5 Γ5 σ5 μ5 s5 r5 g5 q5 => ⟨n5, Γ5, μ5, rfl, s5, r5, g5, q5⟩,
      fun n5 v d μ5 s5 r5 p5 q5 => l.rt n5 v d μ5 ((sa.trans s1).trans s5) r5 p5 q5, fun n5 Γ5 σ5 μ5 cls dd x s5 r5 g5 e5 q5 => l.ex n5 Γ5 σ5 μ5 cls dd x ((sa.trans s1).trans s5) r5 g5 (e5.anchor (sa.trans s1)) q5⟩
  · have e : i = ds.length := by omega
    subst e
    rw [List.drop_length] at q2
    exact .inl ⟨w.stops n2 μ2 s2.sp r2 gd, l.nx n2 Γ2 σ' μ2 ((sa.trans s1).trans s2) r2 g2 q2.2⟩
/-- while: by turns told ahead -/
def dWhileN (t : DTT) (body : DTS) : Nat → DEnds → Gam → Mu → Prop
  | 0, _, _, _ => False
  | m + 1, D, Γ, μ => t Γ μ (fun c μ1 => cond c (body { D with nx := dWhileN t body m D, ct := dWhileN t body m D, bk := D.nx } Γ μ1) (D.nx Γ μ1)) (fun x μ1 => D.ex x Γ μ1)
def dWhile (t : DTT) (body : DTS) : DTS := fun D Γ μ => ∃ m, dWhileN t body m D Γ μ
theorem ds_while (hp : PassesOwn (model X.prog X.w) X.A X.env X.xe) (hc : DT X W c t) (hb : DSs X W body T) : DS X W (.While c body [] pos) (dWhile t T) :=
  PS.imp (ps_while hp hc hb) fun Dn σ H ⟨A, n, Γ, μ, Dd, hH, sa, sr, gr, ⟨m, h⟩, l⟩ => by
  subst hH
  refine ⟨fun m σ' H' => ∃ n2 Γ2 μ2, n2.H = H' ∧ Step A n2 ∧ SR0 X.K n2 μ2 ∧ GR X.K n2 Γ2 σ' ∧ dWhileN t T m Dd Γ2 μ2, ⟨m, n, Γ, μ, rfl, sa, sr, gr, h⟩, ?_⟩
  rintro m σ' H' ⟨n2, Γ2, μ2, rfl, s2, r2, g2, q2⟩
  cases m with
  | zero => exact q2.elim
  | succ m =>
    refine liftT_go r2 g2 q2 (fun n3 b μ3 s3 r3 q3 => ?_) (l.x s2 g2)
    cases b with
    | false => exact iteF (l.nx n3 Γ2 σ' μ3 (s2.trans s3) r3 (g2.step s3) q3)
    | true =>
      refine iteT ⟨fun σ4 H4 => ∃ n4 Γ4 μ4, n4.H = H4 ∧ Step A n4 ∧ SR0 X.K n4 μ4 ∧ GR X.K n4 Γ4 σ4 ∧ dWhileN t T m Dd Γ4 μ4, fun σ4 H4 z => ⟨m, Nat.lt_succ_self m, z⟩, ?_⟩
      exact liftS_go (s2.trans s3) r3 (g2.step s3) q3 ⟨fun n5 Γ5 σ5 μ5 s5 r5 g5 q5 => ⟨n5, Γ5, μ5, rfl, s5, r5, g5, q5⟩, l.nx, fun n5 Γ5 σ5 μ5 s5 r5 g5 q5 => ⟨n5, Γ5, μ5, rfl, s5, r5, g5, q5⟩, l.rt, l.ex⟩
end
end DV
namespace DV
open PySem PySem.Spec PyProof.Rows L2
abbrev W0 : WX := fun _ _ _ _ => False
def wipeG (Γ : Gam) : List Nat → Gam
  | [] => Γ
  | v :: vs => (wipeG Γ vs).set v none
theorem GR.unset {K : PySem.W.Frag} {n : Now} {Γ : Gam} {σ : L2.St} (g : GR K n Γ σ) (i : Nat) : GR K n (Γ.set i none) (σ.set i none) := by
  refine ⟨by simp [g.len], fun j e h => ?_⟩
  by_cases hj : i = j
  · subst hj
    by_cases hl : i < Γ.length
    · rw [List.getElem?_set_self hl] at h; cases h
    · rw [List.getElem?_eq_none (by simp; omega)] at h; cases h
  · rw [List.getElem?_set_ne hj] at h ⊢
    exact g.at_ j e h
theorem GR.wipe {K : PySem.W.Frag} {n : Now} {Γ : Gam} {σ : L2.St} (g : GR K n Γ σ) : ∀ vs, GR K n (wipeG Γ vs) (L2.wipe σ vs)
  | [] => g
  | v :: vs => (GR.wipe g vs).unset v
/-- slots outside vs agree -/
theorem wipe_get (σ : L2.St) : ∀ (vs : List Nat) (k : Nat), (L2.wipe σ vs)[k]? = if k ∈ vs then (if k < σ.length then some none else none) else σ[k]?
  | [], k => by simp [L2.wipe]
  | v :: vs, k => by
    have ih := wipe_get σ vs k
    have hl := L2.wipe_length σ vs
    show ((L2.wipe σ vs).set v none)[k]? = _
    by_cases hk : v = k
    · subst hk
      simp only [List.mem_cons, true_or, if_true]
      by_cases hl2 : v < σ.length
      · rw [List.getElem?_set_self (by omega), if_pos hl2]
      · rw [List.getElem?_eq_none (by simp; omega), if_neg hl2]
    · rw [List.getElem?_set_ne hk, ih]
      have : (k ∈ v :: vs) ↔ k ∈ vs := by simp [Ne.symm hk]
      simp only [this]
theorem wipe_eq {σ σ' : L2.St} {vs : List Nat} (hl : σ'.length = σ.length) (h : ∀ k, k ∉ vs → σ'[k]? = σ[k]?) : L2.wipe σ' vs = L2.wipe σ vs := by
  apply List.ext_getElem?
  intro k
  rw [wipe_get, wipe_get, hl]
  split
  · rfl
  · rename_i hk; exact h k hk
/-- a comprehension's target -/
def CT (K : PySem.W.Frag) (vs : List Nat) (g : TG) (gd : D → Gam → Mu → (Gam → Prop) → Prop) : Prop :=
  ∀ n μ v d Γ σ (Qd : Gam → Prop) Q, SR0 K n μ → GR K n Γ σ → Rep K n.Hb n.al v d → gd d Γ μ Qd → (∀ Γ' σ', GR K n Γ' σ' → σ'.length = σ.length → (∀ k, k ∉ vs → σ'[k]? = σ[k]?) → Qd Γ' → Q σ' n.H) → g v σ n.H Q
def cName (i : Nat) : D → Gam → Mu → (Gam → Prop) → Prop := fun d Γ _ Q => Q (Γ.set i (some d))
theorem ct_name {K : PySem.W.Frag} {vs : List Nat} {i : Nat} (hi : i ∈ vs) : CT K vs (gName i) (cName i) := fun n μ v d Γ σ Qd Q sr gr rp h hq =>
  hq _ _ (gr.set rp i) (by simp) (fun k hk => List.getElem?_set_ne (show i ≠ k from fun z => hk (z ▸ hi))) h
/-- (x, y) as a target: a tuple of two -/
def cPair (i j : Nat) : D → Gam → Mu → (Gam → Prop) → Prop := fun d Γ _ Q => match d with
  | .tup [x, y] => Q ((Γ.set i (some x)).set j (some y))
  | _ => False
section
variable {K : PySem.W.Frag} {n n1 : Now} {μ : Mu} {p : Addr} {o : HO}
structure Hid (n : Now) (p : Addr) : Prop where
  b : n.Hb p = none
  a : p ∉ n.al
  ph : p ∉ n.ph
theorem SR0.other (s : SR0 K n μ) (h : Hid n p) : SR0 K (n.more p o) μ := by
  refine ⟨fun b u e => ?_, s.len, s.nd, fun i a c e1 e2 => ?_, fun a ha => ?_, s.orc1, fun b hb' => ?_⟩
  · show upd n.H p o b = _
    rw [upd_ne (ne_of_none e h.b)]; exact s.same _ _ e
  · have hne : a ≠ p := fun z => h.a (z ▸ List.mem_of_getElem? e1)
    exact (s.cell i a c e1 e2).grow (n' := n.more p o) (upd_ne hne) (fun z => z) (Same.refl _) (List.prefix_refl _) rfl fun b hb' => upd_ne fun z => h.ph (z ▸ hb')
  · have hne : a ≠ p := fun z => h.a (z ▸ ha)
    show upd n.H p o a ≠ none
    rw [upd_ne hne]; exact s.alh a ha
  · have hne : b ≠ p := fun z => h.ph (z ▸ hb')
    obtain ⟨h1, h2, h3⟩ := s.phb b hb'
    exact ⟨h1, h2, by show upd n.H p o b ≠ none; rw [upd_ne hne]; exact h3⟩
theorem Step.other (s : Step n1 n) (h : n1.H p = none) : Step n1 (n.more p o) where
  same := s.same
  pre := s.pre
  newb := s.newb
  newa := s.newa
  newp := s.newp
  keep := fun b u e h0 h1 h2 => by show upd n.H p o b = _; rw [upd_ne (ne_of_none e h)]; exact s.keep b u e h0 h1 h2
  dom := fun b e => by
    by_cases hb : b = p
    · subst hb; exact h
    · refine s.dom b ?_
      rw [← e]; exact (upd_ne hb).symm
theorem Hid.step {n' : Now} (h : Hid n p) (hp : n.H p = some o) (s : Step n n') : Hid n' p ∧ n'.H p = some o := by
  refine ⟨⟨?_, fun z => ?_, fun z => ?_⟩, s.keep p o hp h.b h.a h.ph⟩
  · cases e : n'.Hb p with
    | none => rfl
    | some u =>
      rcases s.newb p u e with z | z | z
      · exact absurd h.b z
      · rw [hp] at z; cases z
      · exact absurd z h.a
  · rcases s.newa p z with z | z
    · exact h.a z
    · rw [hp] at z; cases z
  · rcases s.newp p z with z | z
    · exact h.ph z
    · rw [hp] at z; cases z
theorem SR0.adopt (s : SR0 K n μ) (h : Hid n p) (hp : n.H p = some o) : SR0 K ⟨upd n.Hb p o, n.H, n.al, n.ph⟩ μ := by
  refine ⟨fun b u e => ?_, s.len, s.nd, fun i a c e1 e2 => ?_, s.alh, s.orc1, fun b hb' => ?_⟩
  · have e' : upd n.Hb p o b = some u := e
    by_cases hb : b = p
    · subst hb; rw [upd_same] at e'; cases e'; exact hp
    · rw [upd_ne hb] at e'; exact s.same _ _ e'
  · have hne : a ≠ p := fun z => h.a (z ▸ List.mem_of_getElem? e1)
    exact (s.cell i a c e1 e2).grow (n' := ⟨upd n.Hb p o, n.H, n.al, n.ph⟩) rfl (fun z => (upd_ne hne).trans z) (same_upd h.b) (List.prefix_refl _) rfl fun _ _ => rfl
  · have hne : b ≠ p := fun z => h.ph (z ▸ hb')
    obtain ⟨h1, h2, h3⟩ := s.phb b hb'
    exact ⟨(upd_ne hne).trans h1, h2, h3⟩
theorem Step.adopt (s : Step n1 n) (h1 : n1.H p = none) (h : Hid n p) : Step n1 ⟨upd n.Hb p o, n.H, n.al, n.ph⟩ where
  same := s.same.trans (Same.l (same_upd h.b))
  pre := s.pre
  newb := fun b u e => by
    have e' : upd n.Hb p o b = some u := e
    by_cases hb : b = p
    · subst hb; exact .inr (.inl h1)
    · rw [upd_ne hb] at e'; exact s.newb b u e'
  newa := s.newa
  newp := s.newp
  keep := s.keep
  dom := s.dom
theorem SR0.adoptC (s : SR0 K n μ) (h : Hid n p) (hp : n.H p = some o) {c : Cell} (hc : CellAt K ⟨n.Hb, n.H, n.al ++ [p], n.ph⟩ p c) (ho : ∀ k, c ≠ .orc k) : SR0 K ⟨n.Hb, n.H, n.al ++ [p], n.ph⟩ (μ ++ [c]) := by
  refine ⟨s.same, by simp [s.len], ?_, fun i a d e1 e2 => ?_, fun a ha => ?_, fun i j x y e1 e2 => ?_, fun b hb' => ?_⟩
  · show (n.al ++ [p]).Nodup
    rw [List.nodup_append]
    exact ⟨s.nd, by simp, fun a ha b hb z => by rw [List.mem_singleton.mp hb] at z; exact h.a (z ▸ ha)⟩
  · have e1' : (n.al ++ [p])[i]? = some a := e1
    by_cases hi : i < n.al.length
    · rw [List.getElem?_append_left hi] at e1'
      rw [List.getElem?_append_left (by rw [← s.len]; exact hi)] at e2
      exact (s.cell i a d e1' e2).grow (n' := ⟨n.Hb, n.H, n.al ++ [p], n.ph⟩) rfl (fun z => z) (Same.refl _) (List.prefix_append _ _) rfl fun _ _ => rfl
    · rw [List.getElem?_append_right (by omega)] at e1'
      rw [List.getElem?_append_right (by rw [← s.len]; omega), ← s.len] at e2
      have hz : i - n.al.length = 0 := by
        have := (List.getElem?_eq_some_iff.mp e1').1
        simp at this; omega
      rw [hz] at e1' e2
      simp at e1' e2
      subst e1'; subst e2
      exact hc
  · rcases List.mem_append.mp ha with z | z
    · exact s.alh a z
    · rw [List.mem_singleton.mp z]
      show n.H p ≠ none
      rw [hp]; simp
  · have q : ∀ (i : Nat) x, (μ ++ [c])[i]? = some (.orc x) → μ[i]? = some (.orc x) := fun i x e => by
      by_cases hi : i < μ.length
      · rw [List.getElem?_append_left hi] at e; exact e
      · rw [List.getElem?_append_right (by omega)] at e
        have hz : i - μ.length = 0 := by
          have := (List.getElem?_eq_some_iff.mp e).1
          simp at this; omega
        rw [hz] at e; simp at e
        exact absurd e (ho x)
    exact s.orc1 i j x y (q i x e1) (q j y e2)
  · obtain ⟨h1, h2, h3⟩ := s.phb b hb'
    refine ⟨h1, fun z => ?_, h3⟩
    rcases List.mem_append.mp z with z | z
    · exact h2 z
    · exact h.ph (List.mem_singleton.mp z ▸ hb')
theorem Step.adoptC (s : Step n1 n) (h1 : n1.H p = none) : Step n1 ⟨n.Hb, n.H, n.al ++ [p], n.ph⟩ where
  same := s.same
  pre := s.pre.trans (List.prefix_append _ _)
  newb := s.newb
  newa := fun b hb => by
    rcases List.mem_append.mp hb with z | z
    · exact s.newa b z
    · rw [List.mem_singleton.mp z]; exact .inr h1
  newp := s.newp
  keep := s.keep
  dom := s.dom
end
/-! ### comprehensions -/
def dYes : DTT := fun _ μ Q _ => Q true μ
def dCompL (src : Option (Nat × List D)) (g : D → Gam → Mu → (Gam → Prop) → Prop) (tt : DTT) (te : DTE) (Γ : Gam) : List D → List D → Mu → (List D → Mu → Prop) → Prop
  | [], acc, μ, Q => Gd src μ ∧ Q acc μ
  | d :: ds, acc, μ, Q => Gd src μ ∧ g d Γ μ fun Γ1 => tt Γ1 μ (fun b μ2 => cond b (te Γ1 μ2 (fun y μ3 => acc.length < sizeLine ∧ dCompL src g tt te Γ ds (acc ++ [y]) μ3 Q) (fun _ _ => False)) (dCompL src g tt te Γ ds acc μ2 Q)) (fun _ _ => False)
/-- as data (fz), or as a cell -/
def dFin (fz : Bool) (acc : List D) (μ : Mu) (Q : D → Mu → Prop) : Prop := match fz with
  | true => Q (.lst acc) μ
  | false => Q (.ref μ.length) (μ ++ [.lst acc])
def dComp (fz : Bool) (vs : List Nat) (fi : DTI) (g : D → Gam → Mu → (Gam → Prop) → Prop) (tt : DTT) (te : DTE) : DTE := fun Γ μ Q E => fi Γ μ (fun src ds μ1 => dCompL src g tt te (wipeG Γ vs) ds [] μ1 fun acc μ2 => dFin fz acc μ2 Q) E
theorem comp_go {K : PySem.W.Frag} {W : WX} {fz : Bool} {vs : List Nat} {fi : DTI} {g : TG} {gd : D → Gam → Mu → (Gam → Prop) → Prop} {tt : DTT} {te : DTE} (hg : CT K vs g gd) (σ : L2.St) (H : Hp) (Q : VK) (h : lift K W (dComp fz vs fi gd tt te) σ H Q) :
    tLc (liftI K W fi) g (liftT K W0 tt) (lift K W0 te) vs σ H Q := by
  obtain ⟨n, Γ, μ, Qd, Ed, hH, sr, gr, h, hq, hx⟩ := h
  subst hH
  refine ⟨n, Γ, μ, _, _, rfl, sr, gr, h, fun n1 src ds μ1 J s1 r1 w q p hp => ?_, hx⟩
  have gw := (gr.step s1).wipe vs
  refine ⟨fun i m H' => m = ds.length - i ∧ i ≤ ds.length ∧ ∃ n2 μ2 acc avs, n2.H = H' ∧ Step n1 n2 ∧ SR0 K n2 μ2 ∧ Hid n2 p ∧ n2.H p = some (.lst avs) ∧ Reps K n2.Hb n2.al avs acc ∧ dCompL src gd tt te (wipeG Γ vs) (ds.drop i) acc μ2 (fun acc μ2 => dFin fz acc μ2 Qd),
    ⟨ds.length, by simp, Nat.zero_le _, n1.more p (.lst []), μ1, [], [], rfl, Step.more hp, r1.more hp, ⟨r1.hb hp, r1.nal hp, r1.nph hp⟩, upd_same, .nil, q⟩, ?_⟩
  rintro i m H' ⟨rfl, hi, n2, μ2, acc, avs, rfl, s2, r2, hid, hv, rp, q2⟩
  have gd2 : Gd src μ2 := by
    cases hd : ds.drop i with
    | nil => rw [hd] at q2; exact q2.1
    | cons d r => rw [hd] at q2; exact q2.1
  by_cases hlt : i < ds.length
  · refine .inr ⟨w.goes n2 μ2 i s2.sp r2 gd2 hlt, _, fun H3 p3 => ⟨ds.length - (i + 1), by omega, p3⟩, fun x H3 y => ?_⟩
    rw [List.drop_eq_getElem_cons hlt] at q2
    obtain ⟨n3, rfl, s3, r3, p3⟩ := w.yields n2 μ2 i x H3 ds[i] s2.sp r2 gd2 (by rw [List.getElem?_eq_getElem hlt]) y
    refine hg n3 μ2 x ds[i] (wipeG Γ vs) (L2.wipe σ vs) _ _ r3 ((gw.step s2).step s3) p3 q2.2 fun Γ4 σ4 g4 hl4 ha4 q4 => ⟨?_, ?_⟩
    · refine (wipe_eq hl4 ha4).trans ?_
      exact wipe_eq (L2.wipe_length σ vs) (fun k hk => by rw [wipe_get, if_neg hk])
    · refine liftT_go r3 g4 q4 (fun n5 b μ5 s5 r5 q5 => ?_) (fun _ _ _ _ _ _ _ _ z => z)
      obtain ⟨hid3, hv3⟩ := hid.step hv s3
      obtain ⟨hid5, hv5⟩ := hid3.step hv3 s5
      cases b with
      | false =>
        exact iteF ⟨rfl, hlt, n5, μ5, acc, avs, rfl, (s2.trans s3).trans s5, r5, hid5, hv5, (s3.trans s5).reps rp, q5⟩
      | true =>
        refine iteT (lift_go r5 (g4.step s5) q5 (fun n6 y dy μ6 s6 r6 p6 q6 => ?_) (fun _ _ _ _ _ _ _ _ z => z))
        obtain ⟨hid6, hv6⟩ := hid5.step hv5 s6
        have rp6 := ((s3.trans s5).trans s6).reps rp
        refine ⟨avs, hv6, by rw [rp6.length]; exact q6.1, rfl, hlt, n6.more p (.lst (avs ++ [y])), μ6, acc ++ [dy], avs ++ [y], rfl, Step.other (((s2.trans s3).trans s5).trans s6) hp, r6.other hid6, ⟨hid6.b, hid6.a, hid6.ph⟩, upd_same, rp6.append (.cons p6 .nil), q6.2⟩
  · have e : i = ds.length := by omega
    subst e
    rw [List.drop_length] at q2
    refine .inl ⟨w.stops n2 μ2 s2.sp r2 gd2, ?_⟩
    have q3 := q2.2
    unfold dFin at q3
    cases fz with
    | true => exact hq ⟨upd n2.Hb p (.lst avs), n2.H, n2.al, n2.ph⟩ _ (.lst acc) μ2 (s1.trans (Step.adopt s2 hp hid)) (r2.adopt hid hv) (.lst upd_same (rp.mono (same_upd hid.b) (List.prefix_refl _))) q3
    | false =>
      refine hq ⟨n2.Hb, n2.H, n2.al ++ [p], n2.ph⟩ _ (.ref μ2.length) (μ2 ++ [Cell.lst acc]) (s1.trans (Step.adoptC s2 hp)) (r2.adoptC hid hv (c := .lst acc) ⟨hid.b, avs, hv, rp.mono (Same.refl _) (List.prefix_append _ _)⟩ (fun k z => by cases z)) (.ref ?_) q3
      show (n2.al ++ [p])[μ2.length]? = _
      rw [← r2.len]; simp
section
variable {X : Cx} {W : WX} {elt tg iter : Expr} {ifs : List Expr} {scope : Scope} {own : List (Str × Nat)} {pos : Pos} {fz : Bool} {fi : DTI} {g : TG} {gd : D → Gam → Mu → (Gam → Prop) → Prop} {tt : DTT} {te : DTE}
theorem dts_nil {X : Cx} : PTs X [] (liftT X.K W0 dYes) := ⟨fun pins s σ H Q I ⟨n, Γ, μ, Qd, Ed, hH, sr, gr, h, hq, hx⟩ => by
  subst hH
  exact (pts_nil (X := X)).run pins s σ n.H Q I (hq n true μ (Step.refl n) sr h)⟩
theorem dts_one {X : Cx} {c : Expr} (h : DT X W0 c tt) : PTs X [c] (liftT X.K W0 tt) := pts_one h
theorem de_lc (hc : X.calm = true) (hN : X.N.Nodup) (hi : DI X W tg iter fi) (ok : BlkOk X.N X.env.scope scope own) (hct : CT X.K (own.map (·.2)) g gd)
    (hg : ∀ (s : Shared) (H : Hp) (C : Addr) (cl : List (Str × Addr)) (fp : List Addr), PG (X.blk s H scope (compEnvC scope cl C X.env) fp) tg g)
    (ht : ∀ (s : Shared) (H : Hp) (C : Addr) (cl : List (Str × Addr)) (fp : List Addr), PTs (X.blk s H scope (compEnvC scope cl C X.env) fp) ifs (liftT X.K W0 tt))
    (he : ∀ (s : Shared) (H : Hp) (C : Addr) (cl : List (Str × Addr)) (fp : List Addr), PE (X.blk s H scope (compEnvC scope cl C X.env) fp) elt (lift X.K W0 te)) (hs : ∀ x, foldedSetIterable iter X.env x = pure x := by intro _; rfl) :
    DE X W (.ListComp elt [⟨tg, iter, ifs, 0⟩] scope pos) (dComp fz (own.map (·.2)) fi gd tt te) := PE.imp (pe_lc hc hN hi ok hg ht he hs) fun σ H Q h => comp_go hct σ H Q h
theorem ds_setLc {i : Nat} {y : Str} {py spos : Pos} (hc : X.calm = true) (hN : X.N.Nodup) (hy : X.N[i]? = some y) (hyl : X.env.scope.names.lookup y = some .local)
    (hsw : swapsWith (.ListComp elt [⟨tg, iter, ifs, 0⟩] scope pos) (some (.Name y py)) spos.line X.env = pure true) (hi : DI X W tg iter fi) (ok : BlkOk X.N X.env.scope scope own) (hct : CT X.K (own.map (·.2)) g gd)
    (hg : ∀ (s : Shared) (H : Hp) (C : Addr) (cl : List (Str × Addr)) (fp : List Addr), PG (X.blk s H scope (compEnvC scope cl C X.env) fp) tg g)
    (ht : ∀ (s : Shared) (H : Hp) (C : Addr) (cl : List (Str × Addr)) (fp : List Addr), PTs (X.blk s H scope (compEnvC scope cl C X.env) fp) ifs (liftT X.K W0 tt))
    (he : ∀ (s : Shared) (H : Hp) (C : Addr) (cl : List (Str × Addr)) (fp : List Addr), PE (X.blk s H scope (compEnvC scope cl C X.env) fp) elt (lift X.K W0 te)) (hs : ∀ x, foldedSetIterable iter X.env x = pure x := by intro _; rfl) :
    DS X W (.Assign [.Name y py] (.ListComp elt [⟨tg, iter, ifs, 0⟩] scope pos) spos) (dAsg (dComp fz (own.map (·.2)) fi gd tt te) (dName i)) := PS.imp (ps_setLc hc hN hy hyl hsw hi ok hg ht he hs) fun Dn σ H ⟨A, n, Γ, μ, Dd, hH, sa, sr, gr, h, l⟩ => by
  subst hH
  exact comp_go (fz := fz) hct σ n.H _ (lift_go sr gr h (fun n' v d μ' s' r' p q => l.nx n' (Γ.set i (some d)) (σ.set i (some v)) μ' (sa.trans s') r' ((gr.step s').set p i) q) (l.x sa gr))
end
end DV
namespace DV
open PySem PySem.Spec PyProof.Rows L2
/-! ### operators: the union of the layer's rules, read on data -/
section
variable {X : Cx} {f : Value → Value → Sem Value} {r r' : R2}
theorem opr_or (h : OpR X f r) (h' : OpR X f r') : OpR X f (fun x y H Q => r x y H Q ∨ r' x y H Q) := by
  intro pins s σ H x y v u Q I rx ry q
  rcases q with q | q
  · exact h pins s σ H x y v u Q I rx ry q
  · exact h' pins s σ H x y v u Q I rx ry q
theorem callr_or {g : Value} {r r' : List V → Hp → VK → Prop} (h : CallR X g r) (h' : CallR X g r') : CallR X g (fun x H Q => r x H Q ∨ r' x H Q) := by
  intro pins s σ H x u Q I rx q
  rcases q with q | q
  · exact h pins s σ H x u Q I rx q
  · exact h' pins s σ H x u Q I rx q
end
/-- flat data -/
def D.flat : D → Bool
  | .non => true | .bl _ => true | .int _ => true | .str _ => true | _ => false
/-- == of flat data -/
def D.eqF : D → D → Bool
  | .non, .non => true
  | .bl a, .bl b => a == b
  | .bl a, .int b => (if a then 1 else 0) == b
  | .int a, .bl b => a == (if b then 1 else 0)
  | .int a, .int b => a == b
  | .str a, .str b => a == b
  | _, _ => false
/-- deep data without dicts: to the library's own, k levels -/
def D.okn : Nat → D → Bool
  | _, .non => true
  | _, .bl _ => true
  | _, .int _ => true
  | _, .str x => PyData.strOk x
  | k + 1, .lst xs => xs.all (D.okn k)
  | k + 1, .tup xs => xs.all (D.okn k)
  | _, _ => false
def D.py : Nat → D → PyData
  | _, .bl b => .bool b
  | _, .int i => .int i
  | _, .str x => .str x
  | k + 1, .lst xs => .list (xs.map (D.py k))
  | k + 1, .tup xs => .tuple (xs.map (D.py k))
  | _, _ => .none
theorem canLayAll0_iff (l : List PyData) : PyData.canLayAll0 l = l.all PyData.canLay0 := by
  induction l with
  | nil => rfl
  | cons a l ih => rw [PyData.canLayAll0, ih]; rfl
theorem depthAll_le (l : List PyData) (k : Nat) (h : ∀ x ∈ l, PyData.depth x ≤ k) : PyData.depthAll l ≤ k := by
  induction l with
  | nil => simp [PyData.depthAll]
  | cons a l ih =>
    rw [PyData.depthAll]
    exact Nat.max_le.mpr ⟨h a (by simp), ih fun x hx => h x (by simp [hx])⟩
theorem okn_lay : ∀ (k : Nat) (d : D), D.okn k d = true → PyData.canLay0 (D.py k d) = true ∧ PyData.depth (D.py k d) ≤ k := by
  intro k
  induction k with
  | zero => intro d h; cases d <;> simp_all [D.okn, D.py, PyData.canLay0, PyData.depth]
  | succ k ih =>
    intro d h
    cases d with
    | lst xs =>
      simp only [D.okn, List.all_eq_true] at h
      simp only [D.py, PyData.canLay0, PyData.depth, canLayAll0_iff]
      refine ⟨?_, Nat.succ_le_succ (depthAll_le _ _ fun x hx => ?_)⟩
      · rw [List.all_eq_true]; intro x hx
        obtain ⟨y, hy, rfl⟩ := List.mem_map.mp hx
        exact (ih y (h y hy)).1
      · obtain ⟨y, hy, rfl⟩ := List.mem_map.mp hx
        exact (ih y (h y hy)).2
    | tup xs =>
      simp only [D.okn, List.all_eq_true] at h
      simp only [D.py, PyData.canLay0, PyData.depth, canLayAll0_iff]
      refine ⟨?_, Nat.succ_le_succ (depthAll_le _ _ fun x hx => ?_)⟩
      · rw [List.all_eq_true]; intro x hx
        obtain ⟨y, hy, rfl⟩ := List.mem_map.mp hx
        exact (ih y (h y hy)).1
      · obtain ⟨y, hy, rfl⟩ := List.mem_map.mp hx
        exact (ih y (h y hy)).2
    | _ => simp_all [D.okn, D.py, PyData.canLay0, PyData.depth]
section
variable {K : PySem.W.Frag} {Hb H : Hp} {al : List Addr}
theorem dp_of (s : Same Hb H) : ∀ (k : Nat) {v : V} {d : D}, Rep K Hb al v d → D.okn k d = true → Dp K H v (D.py k d) := by
  intro k
  induction k with
  | zero => intro v d r h; cases r <;> simp_all [D.okn, D.py] <;> constructor
  | succ k ih =>
    have all : ∀ {vs : List V} {ds : List D}, Reps K Hb al vs ds → ds.all (D.okn k) = true → DpAll K H vs (ds.map (D.py k)) := by
      intro vs
      induction vs with
      | nil => intro ds r _; cases r; exact .nil
      | cons v vs ihv =>
        intro ds r h
        cases r with
        | cons r1 r2 =>
          simp only [List.all_cons, Bool.and_eq_true] at h
          exact .cons (ih r1 h.1) (ihv r2 h.2)
    intro v d r h
    cases r with
    | lst h1 h2 =>
      simp only [D.okn] at h
      exact .lst (SqL.of (s _ _ h1)) (all h2 h)
    | tup h1 h2 =>
      simp only [D.okn] at h
      exact .tup (SqT.of (s _ _ h1)) (all h2 h)
    | non => simp only [D.py]; exact .non
    | bl b => simp only [D.py]; exact .bl b
    | int i => simp only [D.py]; exact .int i
    | str x => simp only [D.py]; exact .str x
    | _ => simp [D.okn] at h
end
/-- a cell that is compared: its list stands in H alone -/
theorem dp_see {K : PySem.W.Frag} {n : Now} {μ : Mu} {v : V} {d : D} (k : Nat) (s : SR0 K n μ) (r : Rep K n.Hb n.al v d) (h : D.okn (k + 1) (lk μ d) = true) : Dp K n.H v (D.py (k + 1) (lk μ d)) := by
  by_cases hr : ∃ l, d = .ref l
  · obtain ⟨l, rfl⟩ := hr
    cases e : lk μ (.ref l) with
    | lst ds =>
      rw [e] at h
      obtain ⟨a, vs, rfl, h1, h2⟩ := see_lst s r e
      have q : Dp K n.H (.ref a) (D.py (k + 1) (.lst ds)) := by
        simp only [D.okn] at h
        refine .lst (SqL.of h1) ?_
        clear e h1 r
        induction vs generalizing ds with
        | nil => cases h2; exact .nil
        | cons v vs ihv =>
          cases h2 with
          | cons r1 r2 =>
            simp only [List.all_cons, Bool.and_eq_true] at h
            exact .cons (dp_of s.same k r1 h.1) (ihv _ h.2 r2)
      exact q
    | ref m => rw [e] at h; simp [D.okn] at h
    | dct m => rw [e] at h; simp [D.okn] at h
    | ins C m => rw [e] at h; simp [D.okn] at h
    | _ =>
      have z := lk_ref e (by simp)
      rcases z with ⟨_, _, q⟩ | ⟨_, _, q⟩ | ⟨_, _, _, q⟩ <;> cases q
  · have e : lk μ d = d := by
      cases d with
      | ref l => exact absurd ⟨l, rfl⟩ hr
      | _ => rfl
    rw [e] at h ⊢
    exact dp_of s.same _ r h
/-- ==, 12 levels deep -/
def deq (μ : Mu) (x y : D) : Bool := PyData.eqv (D.py 12 (lk μ x)) (D.py 12 (lk μ y))
def deqOk (μ : Mu) (x y : D) : Prop := D.okn 12 (lk μ x) = true ∧ D.okn 12 (lk μ y) = true
def gEq : G2 := fun x y μ Q => deqOk μ x y ∧ Q (.bl (deq μ x y)) μ
def gNe : G2 := fun x y μ Q => deqOk μ x y ∧ Q (.bl (!deq μ x y)) μ
theorem shaped_py {d : D} (h : D.okn 12 d = true) : SeqAt.shaped (D.py 12 d) = true := by
  obtain ⟨h1, h2⟩ := okn_lay 12 d h
  unfold SeqAt.shaped
  rw [h1, Bool.true_and, decide_eq_true]
  omega
theorem op_gEq {K : PySem.W.Frag} : Op2 K (rEqD K) gEq := fun n μ x y dx dy Qd Q s rx ry h l =>
  ⟨_, _, dp_see 11 s rx h.1.1, dp_see 11 s ry h.1.2, shaped_py h.1.1, shaped_py h.1.2, l.now s (.bl _) h.2⟩
theorem op_gNe {K : PySem.W.Frag} : Op2 K (rNeD K) gNe := fun n μ x y dx dy Qd Q s rx ry h l =>
  ⟨_, _, dp_see 11 s rx h.1.1, dp_see 11 s ry h.1.2, shaped_py h.1.1, shaped_py h.1.2, l.now s (.bl _) h.2⟩
section
variable {X : Cx} {W : WX} {a b c : Expr} {pos : Pos} {fa fb fc : DTE}
theorem dt_cmp {op : CmpOp} {r : R2} {g : G2} (ho : OpR X (compareOp op) r) (hg : Op2 X.K r g) (ha : DE X W a fa) (hb : DE X W b fb) (hm : behindInMarks op b = false := by rfl) : DT X W (.Compare a [op] [b] pos) (dTest (dBin g fa fb)) := PT.imp (pt_cmpR ho ha hb hm) fun σ H Q ⟨n, Γ, μ, Qd, Ed, hH, sr, gr, h, hq, hx⟩ => by
  subst hH
  unfold tTest
  refine two hg σ n.H _ (lift_go sr gr h (fun n1 x dx μ1 s1 r1 p1 q1 => ?_) hx)
  cases p1 with
  | bl b => exact ⟨b, rfl, hq n1 b μ1 s1 r1 q1⟩
  | _ => exact q1.elim
theorem dt_eq (hu : X.A.units + 64 < cLine) (ha : DE X W a fa) (hb : DE X W b fb) : DT X W (.Compare a [.Eq] [b] pos) (dTest (dBin gEq fa fb)) := dt_cmp (op_eqD hu) op_gEq ha hb (nomark _)
theorem dt_ne (hu : X.A.units + 64 < cLine) (ha : DE X W a fa) (hb : DE X W b fb) : DT X W (.Compare a [.NotEq] [b] pos) (dTest (dBin gNe fa fb)) := dt_cmp (op_neD hu) op_gNe ha hb (nomark _)
theorem de_eq (hu : X.A.units + 64 < cLine) (ha : DE X W a fa) (hb : DE X W b fb) : DE X W (.Compare a [.Eq] [b] pos) (dBin gEq fa fb) := de_cmp (op_eqD hu) op_gEq ha hb (nomark _)
/-! ### ints -/
def gI (g : Int → Int → D) : G2 := fun x y μ Q => match x, y with
  | .int i, .int j => Q (g i j) μ
  | _, _ => False
theorem op_gI {K : PySem.W.Frag} {gv : Int → Int → V} {gd : Int → Int → D} (h : ∀ K Hb al i j, Rep K Hb al (gv i j) (gd i j)) : Op2 K (rI0 gv) (gI gd) := fun n μ x y dx dy Qd Q s rx ry q l => by
  cases rx with
  | int i =>
    cases ry with
    | int j => exact ⟨i, j, rfl, rfl, l.now s (h _ _ _ i j) q⟩
    | _ => exact q.elim
  | _ => exact q.elim
theorem de_gt (ha : DE X W a fa) (hb : DE X W b fb) : DE X W (.Compare a [.Gt] [b] pos) (dBin (gI fun i j => .bl (decide (j < i))) fa fb) := de_cmp op_gt (op_gI fun _ _ _ _ _ => .bl _) ha hb (nomark _)
theorem dt_lt (ha : DE X W a fa) (hb : DE X W b fb) : DT X W (.Compare a [.Lt] [b] pos) (dTest (dBin (gI fun i j => .bl (decide (i < j))) fa fb)) := dt_cmp op_lt (op_gI fun _ _ _ _ _ => .bl _) ha hb (nomark _)
theorem dt_gt (ha : DE X W a fa) (hb : DE X W b fb) : DT X W (.Compare a [.Gt] [b] pos) (dTest (dBin (gI fun i j => .bl (decide (j < i))) fa fb)) := dt_cmp op_gt (op_gI fun _ _ _ _ _ => .bl _) ha hb (nomark _)
theorem dt_ge (ha : DE X W a fa) (hb : DE X W b fb) : DT X W (.Compare a [.GtE] [b] pos) (dTest (dBin (gI fun i j => .bl (decide (j ≤ i))) fa fb)) := dt_cmp op_ge (op_gI fun _ _ _ _ _ => .bl _) ha hb (nomark _)
/-- + : ints, texts, lists, tuples -/
def gAdd : G2 := fun x y μ Q => match lk μ x, lk μ y with
  | .int i, .int j => Q (.int (i + j)) μ
  | .str i, .str j => i.length + j.length ≤ sizeLine ∧ Q (.str (i ++ j)) μ
  | .lst i, .lst j => i.length + j.length ≤ sizeLine ∧ Q (.lst (i ++ j)) μ
  | .tup i, .tup j => i.length + j.length ≤ sizeLine ∧ Q (.tup (i ++ j)) μ
  | _, _ => False
theorem lk_int {μ : Mu} {d : D} {i : Int} (h : lk μ d = .int i) : d = .int i := by
  cases d with
  | ref l => rcases lk_ref h (by simp) with ⟨_, _, q⟩ | ⟨_, _, q⟩ | ⟨_, _, _, q⟩ <;> cases q
  | _ => exact h
theorem lk_str {μ : Mu} {d : D} {i : Str} (h : lk μ d = .str i) : d = .str i := by
  cases d with
  | ref l => rcases lk_ref h (by simp) with ⟨_, _, q⟩ | ⟨_, _, q⟩ | ⟨_, _, _, q⟩ <;> cases q
  | _ => exact h
theorem lk_scr {μ : Mu} {d : D} {i : List Int} (h : lk μ d = .scr i) : d = .scr i := by
  cases d with
  | ref l => rcases lk_ref h (by simp) with ⟨_, _, q⟩ | ⟨_, _, q⟩ | ⟨_, _, _, q⟩ <;> cases q
  | _ => exact h
theorem op_gAdd {K : PySem.W.Frag} : Op2 K (fun x y H Q => rI0 (fun i j => .int (i + j)) x y H Q ∨ (∃ i j, x = .str i ∧ y = .str j ∧ i.length + j.length ≤ sizeLine ∧ Q (.str (i ++ j)) H) ∨ rCat x y H Q ∨ rCatA K x y H Q) gAdd := fun n μ x y dx dy Qd Q s rx ry q l => by
  unfold gAdd at q
  split at q
  · rename_i i j e1 e2
    rw [lk_int e1] at rx; rw [lk_int e2] at ry
    cases rx; cases ry
    exact .inl ⟨i, j, rfl, rfl, l.now s (.int _) q⟩
  · rename_i i j e1 e2
    rw [lk_str e1] at rx; rw [lk_str e2] at ry
    cases rx; cases ry
    exact .inr (.inl ⟨i, j, rfl, rfl, q.1, l.now s (.str _) q.2⟩)
  · rename_i i j e1 e2
    obtain ⟨a, vs, rfl, h1, r1⟩ := see_lst s rx e1
    obtain ⟨b, us, rfl, h2, r2⟩ := see_lst s ry e2
    exact .inr (.inr (.inl ⟨a, b, vs, us, rfl, rfl, h1, h2, by rw [r1.length, r2.length]; exact q.1, fun p hp => new_lst l s hp (r1.append r2) q.2⟩))
  · rename_i i j e1 e2
    have o1 : dx = .tup i := by
      cases dx with
      | ref l => rcases lk_ref e1 (by simp) with ⟨_, _, q⟩ | ⟨_, _, q⟩ | ⟨_, _, _, q⟩ <;> cases q
      | _ => exact e1
    have o2 : dy = .tup j := by
      cases dy with
      | ref l => rcases lk_ref e2 (by simp) with ⟨_, _, q⟩ | ⟨_, _, q⟩ | ⟨_, _, _, q⟩ <;> cases q
      | _ => exact e2
    obtain ⟨a, vs, rfl, h1, g1, r1⟩ := see_tup s rx e1
    obtain ⟨b, us, rfl, h2, g2, r2⟩ := see_tup s ry e2
    refine .inr (.inr (.inr ⟨a, b, vs, us, rfl, rfl, SqT.of h1, SqT.of h2, by rw [r1.length, r2.length]; exact q.1, fun z => ?_, fun _ z => ?_, fun _ _ p hp => new_tup l s hp (r1.append r2) q.2⟩))
    · subst z
      cases r1
      exact l.now s (.tup g2 r2) q.2
    · subst z
      cases r2
      exact l.now s (.tup g1 r1) (by simpa using q.2)
  · exact q.elim
theorem de_add (ha : DE X W a fa) (hb : DE X W b fb) : DE X W (.BinOp a .Add b pos) (dBin gAdd fa fb) :=
  de_op (opr_or op_add (opr_or op_add_str (opr_or op_cat op_catA))) op_gAdd ha hb
/-- * : ints (one factor small), a list by a number -/
def gMul : G2 := fun x y μ Q => match lk μ x, lk μ y with
  | .int i, .int j => ((-(2 ^ 64) < i ∧ i < 2 ^ 64) ∨ (-(2 ^ 64) < j ∧ j < 2 ^ 64)) ∧ Q (.int (i * j)) μ
  | .lst i, .int k => (-(2 ^ 63) ≤ k ∧ k < 2 ^ 63 ∧ i.length * k.toNat ≤ sizeLine) ∧ Q (.lst (List.replicate k.toNat i).flatten) μ
  | _, _ => False
theorem reps_rep {K : PySem.W.Frag} {Hb : Hp} {al : List Addr} {vs : List V} {ds : List D} (r : Reps K Hb al vs ds) (k : Nat) : Reps K Hb al (List.replicate k vs).flatten (List.replicate k ds).flatten := by
  induction k with
  | zero => exact .nil
  | succ k ih =>
    simp only [List.replicate_succ, List.flatten_cons]
    exact r.append ih
theorem op_gMul {K : PySem.W.Frag} : Op2 K (fun x y H Q => rI CMul (fun i j => .int (i * j)) x y H Q ∨ rRep x y H Q) gMul := fun n μ x y dx dy Qd Q s rx ry q l => by
  unfold gMul at q
  split at q
  · rename_i i j e1 e2
    rw [lk_int e1] at rx; rw [lk_int e2] at ry
    cases rx; cases ry
    exact .inl ⟨i, j, rfl, rfl, q.1, l.now s (.int _) q.2⟩
  · rename_i i k e1 e2
    obtain ⟨a, vs, rfl, h1, r1⟩ := see_lst s rx e1
    rw [lk_int e2] at ry
    cases ry
    exact .inr ⟨a, k, vs, rfl, rfl, h1, q.1.1, q.1.2.1, by rw [r1.length]; exact q.1.2.2, fun p hp => new_lst l s hp (reps_rep r1 _) q.2⟩
  · exact q.elim
theorem de_mul (ha : DE X W a fa) (hb : DE X W b fb) : DE X W (.BinOp a .Mult b pos) (dBin gMul fa fb) := de_op (opr_or op_mul op_rep) op_gMul ha hb
def gMod : G2 := fun x y μ Q => match x, y with
  | .int i, .int j => j ≠ 0 ∧ Q (.int (i.fmod j)) μ
  | _, _ => False
theorem op_gMod {K : PySem.W.Frag} : Op2 K (rI (fun _ j => j ≠ 0) fun i j => .int (i.fmod j)) gMod := fun n μ x y dx dy Qd Q s rx ry q l => by
  cases rx with
  | int i =>
    cases ry with
    | int j => exact ⟨i, j, rfl, rfl, q.1, l.now s (.int _) q.2⟩
    | _ => exact q.elim
  | _ => exact q.elim
theorem de_mod (ha : DE X W a fa) (hb : DE X W b fb) : DE X W (.BinOp a .Mod b pos) (dBin gMod fa fb) := de_op op_modN op_gMod ha hb
def gFdiv : G2 := fun x y μ Q => match x, y with
  | .int i, .int j => (0 < j ∧ j.natAbs.log2 < 9000) ∧ Q (.int (i / j)) μ
  | _, _ => False
theorem op_gFdiv {K : PySem.W.Frag} : Op2 K (rI CDivW fun i j => .int (i / j)) gFdiv := fun n μ x y dx dy Qd Q s rx ry q l => by
  cases rx with
  | int i =>
    cases ry with
    | int j => exact ⟨i, j, rfl, rfl, q.1, l.now s (.int _) q.2⟩
    | _ => exact q.elim
  | _ => exact q.elim
theorem de_fdiv (ha : DE X W a fa) (hb : DE X W b fb) : DE X W (.BinOp a .FloorDiv b pos) (dBin gFdiv fa fb) := de_op op_fdivW op_gFdiv ha hb
def gPow : G2 := fun x y μ Q => match x, y with
  | .int i, .int j => (0 ≤ j ∧ j ≤ 1000000 ∧ i.natAbs < 2 ^ 64) ∧ Q (.int (i ^ j.toNat)) μ
  | _, _ => False
theorem op_gPow {K : PySem.W.Frag} : Op2 K (rI CPow fun i j => .int (i ^ j.toNat)) gPow := fun n μ x y dx dy Qd Q s rx ry q l => by
  cases rx with
  | int i =>
    cases ry with
    | int j => exact ⟨i, j, rfl, rfl, q.1, l.now s (.int _) q.2⟩
    | _ => exact q.elim
  | _ => exact q.elim
theorem de_pow (ha : DE X W a fa) (hb : DE X W b fb) : DE X W (.BinOp a .Pow b pos) (dBin gPow fa fb) := de_op op_pow op_gPow ha hb
def gNeg : G1 := fun x μ Q => match x with
  | .int i => Q (.int (-i)) μ
  | _ => False
theorem de_neg (ha : DE X W a fa) : DE X W (.UnaryOp .USub a pos) (dUn gNeg fa) := de_un un_neg (fun n μ x dx Qd Q s rx q l => by
  cases rx with
  | int i => exact ⟨i, rfl, l.now s (.int _) q⟩
  | _ => exact q.elim) ha
/-! ### chains of two comparisons of ints -/
def dChain (g g' : Int → Int → Bool) (fa fb fc : DTE) : DTE := fun Γ μ Q E => fa Γ μ (fun x μ1 => fb Γ μ1 (fun y μ2 => match x, y with
  | .int i, .int j => cond (g i j) (fc Γ μ2 (fun z μ3 => match z with | .int k => Q (.bl (g' j k)) μ3 | _ => False) E) (Q (.bl false) μ2)
  | _, _ => False) E) E
theorem dt_chain {op op' : CmpOp} {g g' : Int → Int → Bool} (ho : OpR X (compareOp op) (rI0 fun i j => .bl (g i j))) (ho' : OpR X (compareOp op') (rI0 fun i j => .bl (g' i j))) (ha : DE X W a fa) (hb : DE X W b fb) (hc : DE X W c fc)
    (hm : lastMarks [op, op'] [b, c] = false := by with_unfolding_all rfl) : DT X W (.Compare a [op, op'] [b, c] pos) (dTest (dChain g g' fa fb fc)) := PT.imp (pt_chain ho ho' ha hb hc hm) fun σ H Q ⟨n, Γ, μ, Qd, Ed, hH, sr, gr, h, hq, hx⟩ => by
  subst hH
  unfold tTest tChain
  refine lift_go sr gr h (fun n1 x dx μ1 s1 r1 p1 q1 => lift_go r1 (gr.step s1) q1 (fun n2 y dy μ2 s2 r2 p2 q2 => ?_) (hx.step s1)) hx
  cases p1 with
  | int i =>
    cases p2 with
    | int j =>
      refine ⟨i, j, rfl, rfl, g i j, rfl, ?_⟩
      dsimp only at q2
      cases e : g i j with
      | false => rw [e] at q2; exact iteF ⟨_, rfl, hq n2 _ μ2 (s1.trans s2) r2 q2⟩
      | true =>
        rw [e] at q2
        refine iteT (lift_go r2 ((gr.step s1).step s2) q2 (fun n3 z dz μ3 s3 r3 p3 q3 => ?_) ((hx.step s1).step s2))
        cases p3 with
        | int k => exact ⟨j, k, rfl, rfl, _, rfl, hq n3 _ μ3 ((s1.trans s2).trans s3) r3 q3⟩
        | _ => exact q3.elim
    | _ => exact q2.elim
  | _ => exact q2.elim
/-! ### subscripts -/
def gIx : G2 := fun x y μ Q => match lk μ x, y with
  | .lst xs, .int i => (match atI xs i with | some d => Q d μ | none => False)
  | .tup xs, .int i => (match atI xs i with | some d => Q d μ | none => False)
  | .str z, .int i => z.length ≤ sizeLine ∧ (match atI z.cps.toList i with | some c => Q (.str ⟨#[c]⟩) μ | none => False)
  | _, _ => False
theorem reps_at {K : PySem.W.Frag} {Hb : Hp} {al : List Addr} {vs : List V} {ds : List D} (r : Reps K Hb al vs ds) {i : Int} {d : D} (h : atI ds i = some d) : ∃ v, atI vs i = some v ∧ Rep K Hb al v d := by
  unfold atI at h ⊢
  rw [r.length]
  cases e : ixN ds.length i with
  | none => rw [e] at h; cases h
  | some j => rw [e] at h; exact r.get h
theorem op_gIx {K : PySem.W.Frag} : Op2 K (rIx K) gIx := fun n μ x y dx dy Qd Q s rx ry q l => by
  unfold gIx at q
  split at q
  · rename_i xs i e1
    cases ry
    obtain ⟨a, vs, rfl, h1, r1⟩ := see_lst s rx e1
    split at q
    · rename_i d e
      obtain ⟨v, h2, r2⟩ := reps_at r1 e
      exact .inl ⟨a, vs, i, v, rfl, rfl, SqL.of h1, h2, l.now s r2 q⟩
    · exact q.elim
  · rename_i xs i e1
    cases ry
    obtain ⟨a, vs, rfl, h1, _, r1⟩ := see_tup s rx e1
    split at q
    · rename_i d e
      obtain ⟨v, h2, r2⟩ := reps_at r1 e
      exact .inr (.inl ⟨a, vs, i, v, rfl, rfl, SqT.of h1, h2, l.now s r2 q⟩)
    · exact q.elim
  · rename_i z i e1
    cases ry
    rw [lk_str e1] at rx
    cases rx
    obtain ⟨hz, q⟩ := q
    split at q
    · rename_i c e
      exact .inr (.inr ⟨z, i, c, rfl, rfl, hz, e, l.now s (.str _) q⟩)
    · exact q.elim
  · exact q.elim
theorem de_sub_ (ha : DE X W a fa) (hb : DE X W b fb) (hs : PlainIx b := by exact fun _ _ => rfl) : DE X W (.Subscript a b pos) (dBin gIx fa fb) := de_ix ix_seq op_gIx ha hb hs
end
end DV
namespace DV
open PySem PySem.Spec PyProof.Rows L2
section
variable {X : Cx} {W : WX} {a b c e o : Expr} {es : List Expr} {p pos apos : Pos} {fa fb fc : DTE} {fr : DTA}
/-! ### built-ins of one argument -/
def gLen : GN := fun ds μ Q => match ds with
  | [d] => (match lk μ d with
    | .lst xs => Q (.int xs.length) μ
    | .tup xs => Q (.int xs.length) μ
    | .str z => z.length ≤ sizeLine ∧ Q (.int z.length) μ
    | .dct kvs => Q (.int kvs.length) μ
    | _ => False)
  | _ => False
theorem len_of_maps {α β γ δ : Type} {l : List (α × β)} {m : List (α × γ)} (h : l.map (·.1) = m.map (·.1)) : l.length = m.length := by
  have := congrArg List.length h
  simpa using this
theorem op_gLen {K : PySem.W.Frag} : OpN K (fun xs H Q => (∃ x n, xs = [x] ∧ LenV K x H n ∧ Q (.int n) H) ∨ ∃ a kvs, xs = [V.ref a] ∧ Rd H a (.dK kvs) ∧ Q (.int kvs.length) H) gLen := fun n μ xs ds Qd Q s r q l => by
  unfold gLen at q
  split at q
  · cases r with
    | cons r1 r2 =>
      cases r2
      split at q
      · rename_i ys e
        obtain ⟨a, vs, rfl, h1, h2⟩ := see_lst s r1 e
        exact .inl ⟨_, _, rfl, .inl ⟨vs, SqL.of h1, rfl⟩, l.now s (.int _) (by rw [h2.length]; exact q)⟩
      · rename_i ys e
        obtain ⟨a, vs, rfl, h1, _, h2⟩ := see_tup s r1 e
        exact .inl ⟨_, _, rfl, .inr ⟨vs, SqT.of h1, rfl⟩, l.now s (.int _) (by rw [h2.length]; exact q)⟩
      · rename_i z e
        rw [lk_str e] at r1
        cases r1
        exact .inl ⟨_, _, rfl, ⟨q.1, rfl⟩, l.now s (.int _) q.2⟩
      · rename_i kvs e
        obtain ⟨a, us, rfl, h1, h2, h3⟩ := see_dct s r1 e
        have hl : kvs.length = us.length := by simpa using congrArg List.length h2
        exact .inr ⟨a, us, rfl, h1, l.now s (.int _) (by rw [← hl]; exact q)⟩
      · exact q.elim
  · exact q.elim
theorem call_lenDR : CallR X (.builtin "len") (fun xs H Q => ∃ a kvs, xs = [V.ref a] ∧ Rd H a (.dK kvs) ∧ Q (.int kvs.length) H) := by
  intro pins s σ H xs us Q I r h
  obtain ⟨a, kvs, rfl, ha, q⟩ := h
  obtain ⟨u, rfl, ru⟩ := vals1 r
  cases ru
  exact d_len I ha fun t s' I' => ⟨.int kvs.length, H, I', ⟨t, rfl⟩, q⟩
theorem de_len (hg : Gl X "len") (hm : X.mg "len" = none) (ha : DE X W a fa) (hs : starEach [a] X.env = (false, eval a X.env) :: starEach [] X.env := by rfl) : DE X W (.Call (.Name "len" p) [a] [] pos) (dCall gLen (dCons fa dNil)) :=
  de_callB (callr_or call_len call_lenDR) op_gLen hg hm PySem.boot_len (da_cons ha da_nil hs) (he := hs)
def gAbs : GN := fun ds μ Q => match ds with
  | [.int i] => Q (.int (if i < 0 then -i else i)) μ
  | _ => False
theorem de_abs (hg : Gl X "abs") (hm : X.mg "abs" = none) (ha : DE X W a fa) (hs : starEach [a] X.env = (false, eval a X.env) :: starEach [] X.env := by rfl) : DE X W (.Call (.Name "abs" p) [a] [] pos) (dCall gAbs (dCons fa dNil)) :=
  de_callB call_abs (fun n μ xs ds Qd Q s r q l => by
    unfold gAbs at q
    split at q
    · cases r with
      | cons r1 r2 => cases r2; cases r1; exact ⟨_, rfl, l.now s (.int _) q⟩
    · exact q.elim) hg hm (by decide +kernel) (da_cons ha da_nil hs) (he := hs)
def gInt : GN := fun ds μ Q => match ds with
  | [.int i] => Q (.int i) μ
  | [.bl b] => Q (.int (if b then 1 else 0)) μ
  | _ => False
theorem de_intC (hg : Gl X "int") (hm : X.mg "int" = none) (ha : DE X W a fa) (hs : starEach [a] X.env = (false, eval a X.env) :: starEach [] X.env := by rfl) : DE X W (.Call (.Name "int" p) [a] [] pos) (dCall gInt (dCons fa dNil)) :=
  de_callTy call_int1 (fun n μ xs ds Qd Q s r q l => by
    unfold gInt at q
    split at q
    · cases r with
      | cons r1 r2 => cases r2; cases r1; exact .inl ⟨_, rfl, l.now s (.int _) q⟩
    · cases r with
      | cons r1 r2 => cases r2; cases r1; exact .inr ⟨_, rfl, l.now s (.int _) q⟩
    · exact q.elim) hg hm (by decide +kernel) (da_cons ha da_nil hs) (he := hs)
/-- list(x): as data, or as a cell -/
def gList (fz : Bool) : GN := fun ds μ Q => match ds with
  | [d] => (match lk μ d with
    | .lst xs => dFin fz xs μ Q
    | .tup xs => dFin fz xs μ Q
    | .scr ns => dFin fz (ns.map D.int) μ Q
    | _ => False)
  | _ => False
theorem fin_lst {K : PySem.W.Frag} {n : Now} {Qd : D → Mu → Prop} {Q : VK} {fz : Bool} (l : LV K n Qd Q) {μ : Mu} (s : SR0 K n μ) {p : Addr} {vs : List V} {ds : List D} (hp : n.H p = none) (r : Reps K n.Hb n.al vs ds) (q : dFin fz ds μ Qd) : Q (.ref p) (upd n.H p (.lst vs)) := by
  cases fz with
  | true => exact new_lst l s hp r q
  | false => exact new_cell l s hp r q
theorem op_gList {K : PySem.W.Frag} {fz : Bool} : OpN K (fun xs H Q => ∃ p ys, xs = [.ref p] ∧ (SqL K H p ys ∨ SqT K H p ys) ∧ ∀ l, H l = none → Q (.ref l) (upd H l (.lst ys))) (gList fz) := fun n μ xs ds Qd Q s r q l => by
  unfold gList at q
  split at q
  · cases r with
    | cons r1 r2 =>
      cases r2
      split at q
      · rename_i ys e
        obtain ⟨a, vs, rfl, h1, h2⟩ := see_lst s r1 e
        exact ⟨a, vs, rfl, .inl (SqL.of h1), fun p hp => fin_lst l s hp h2 q⟩
      · rename_i ys e
        obtain ⟨a, vs, rfl, h1, _, h2⟩ := see_tup s r1 e
        exact ⟨a, vs, rfl, .inr (SqT.of h1), fun p hp => fin_lst l s hp h2 q⟩
      · rename_i ns e
        rw [lk_scr e] at r1
        cases r1 with
        | scr h1 => exact ⟨_, _, rfl, .inl (s.same.seq h1), fun p hp => fin_lst l s hp (reps_ints ns) q⟩
      · exact q.elim
  · exact q.elim
theorem de_list (fz : Bool) (hg : Gl X "list") (hm : X.mg "list" = none) (ha : DE X W a fa) (hs : starEach [a] X.env = (false, eval a X.env) :: starEach [] X.env := by rfl) : DE X W (.Call (.Name "list" p) [a] [] pos) (dCall (gList fz) (dCons fa dNil)) :=
  de_callTy call_list_of op_gList hg hm (by decide +kernel) (da_cons ha da_nil hs) (he := hs)
def gTuple : GN := fun ds μ Q => match ds with
  | [d] => (match lk μ d with
    | .lst xs => Q (.tup xs) μ
    | .tup xs => Q (.tup xs) μ
    | _ => False)
  | _ => False
theorem op_gTuple {K : PySem.W.Frag} : OpN K (fun xs H Q => ∃ p ys, xs = [.ref p] ∧ ((SqL K H p ys ∧ ∀ l, H l = none → Q (.ref l) (upd H l (.tup ys))) ∨ (SqT K H p ys ∧ Q (.ref p) H))) gTuple := fun n μ xs ds Qd Q s r q l => by
  unfold gTuple at q
  split at q
  · cases r with
    | cons r1 r2 =>
      cases r2
      split at q
      · rename_i ys e
        obtain ⟨a, vs, rfl, h1, h2⟩ := see_lst s r1 e
        exact ⟨a, vs, rfl, .inl ⟨SqL.of h1, fun p hp => new_tup l s hp h2 q⟩⟩
      · rename_i ys e
        obtain ⟨a, vs, rfl, h1, h0, h2⟩ := see_tup s r1 e
        exact ⟨a, vs, rfl, .inr ⟨SqT.of h1, l.now s (.tup h0 h2) q⟩⟩
      · exact q.elim
  · exact q.elim
theorem de_tuple (hg : Gl X "tuple") (hm : X.mg "tuple" = none) (ha : DE X W a fa) (hs : starEach [a] X.env = (false, eval a X.env) :: starEach [] X.env := by rfl) : DE X W (.Call (.Name "tuple" p) [a] [] pos) (dCall gTuple (dCons fa dNil)) :=
  de_callTy call_tuple_of op_gTuple hg hm (by decide +kernel) (da_cons ha da_nil hs) (he := hs)
/-- a list made by +, as a cell -/
def gAddM : G2 := fun x y μ Q => match lk μ x, lk μ y with
  | .lst i, .lst j => i.length + j.length ≤ sizeLine ∧ Q (.ref μ.length) (μ ++ [.lst (i ++ j)])
  | _, _ => False
theorem de_addM (ha : DE X W a fa) (hb : DE X W b fb) : DE X W (.BinOp a .Add b pos) (dBin gAddM fa fb) := de_op op_cat (fun n μ x y dx dy Qd Q s rx ry q l => by
  unfold gAddM at q
  split at q
  · rename_i i j e1 e2
    obtain ⟨a, vs, rfl, h1, r1⟩ := see_lst s rx e1
    obtain ⟨b, us, rfl, h2, r2⟩ := see_lst s ry e2
    exact ⟨a, b, vs, us, rfl, rfl, h1, h2, by rw [r1.length, r2.length]; exact q.1, fun p hp => new_cell l s hp (r1.append r2) q.2⟩
  · exact q.elim) ha hb
/-! ### isinstance against a built-in class -/
inductive Ty where
  | non | bool | int | str | list | tup | dict
  deriving DecidableEq
def Ty.nm : Ty → String
  | .non => "NoneType" | .bool => "bool" | .int => "int" | .str => "str" | .list => "list" | .tup => "tuple" | .dict => "dict"
def Ty.sub (a b : Ty) : Bool := decide (a = b) || (decide (a = .bool) && decide (b = .int))
theorem kit_sub (a b : Ty) (hb : b ≠ .non) : kitB a.nm b.nm = some (a.sub b) := by
  cases b <;> first | exact absurd rfl hb | (cases a <;> decide +kernel)
def tyD : D → Option Ty
  | .non => some .non | .bl _ => some .bool | .int _ => some .int | .str _ => some .str | .lst _ => some .list | .tup _ => some .tup | .dct _ => some .dict | _ => none
theorem ty_of {K : PySem.W.Frag} {n : Now} {μ : Mu} {v : V} {d : D} {t : Ty} (s : SR0 K n μ) (r : Rep K n.Hb n.al v d) (h : tyD (lk μ d) = some t) : TyX K n.H v (.type t.nm) := by
  cases e : lk μ d with
  | lst ds => rw [e] at h; cases h; obtain ⟨a, vs, rfl, h1, _⟩ := see_lst s r e; exact .base (.lst h1)
  | tup ds => rw [e] at h; cases h; obtain ⟨a, vs, rfl, h1, _⟩ := see_tup s r e; exact .base (.tup h1)
  | dct ds => rw [e] at h; cases h; obtain ⟨a, vs, rfl, h1, _⟩ := see_dct s r e; exact h1.elim (fun h => .base (.dK h)) fun ⟨o, h⟩ => .fDict h
  | int i => rw [e] at h; cases h; rw [lk_int e] at r; cases r; exact .base (.int i)
  | str i => rw [e] at h; cases h; rw [lk_str e] at r; cases r; exact .base (.str i)
  | non =>
    rw [e] at h; cases h
    cases d with
    | ref l => rcases lk_ref e (by simp) with ⟨_, _, q⟩ | ⟨_, _, q⟩ | ⟨_, _, _, q⟩ <;> cases q
    | non => cases r; exact .base .non
    | _ => cases e
  | bl b =>
    rw [e] at h; cases h
    cases d with
    | ref l => rcases lk_ref e (by simp) with ⟨_, _, q⟩ | ⟨_, _, q⟩ | ⟨_, _, _, q⟩ <;> cases q
    | bl b => cases e; cases r; exact .base (.bl _)
    | _ => cases e
  | _ => rw [e] at h; cases h
def dIsi (t : Ty) (f : DTE) : DTE := fun Γ μ Q E => f Γ μ (fun d μ1 => match tyD (lk μ1 d) with
  | some a => Q (.bl (a.sub t)) μ1
  | none => False) E
theorem de_isi {T : Str} {p2 : Pos} (t : Ty) (ht : t ≠ .non) (hg : Gl X "isinstance") (hm : X.mg "isinstance" = none) (ha : DE X W a fa) (hgT : Gl X T) (hmT : X.mg T = none) (hvT : bootBuiltins T = some (.type t.nm)) (hn : T ≠ "__name__" := by decide) (hd : (T == ("__debug__" : Str)) = false := by decide)
    (hs : starEach [a, .Name T p2] X.env = (false, eval a X.env) :: starEach [.Name T p2] X.env := by rfl) (hs2 : starEach [.Name T p2] X.env = (false, eval (.Name T p2) X.env) :: starEach [] X.env := by rfl) (hpl : (backTo pos (starEach [.Name T p2] X.env)).any (·.1) = false := by rfl) :
    DE X W (.Call (.Name "isinstance" p) [a, .Name T p2] [] pos) (dIsi t fa) :=
  PE.imp (pe_callB call_isi hg hm (by decide +kernel) (pa_cons ha (pa_cons (pe_bltn (v := .ty t.nm) hgT hmT hvT rfl hn hd) pa_nil hs2) hs) (by decide) (by decide) hs hpl) fun σ H Q ⟨n, Γ, μ, Qd, Ed, hH, sr, gr, h, hq, hx⟩ => by
  subst hH
  refine lift_go sr gr h (fun n1 x dx μ1 s1 r1 p1 q1 => ?_) hx
  try dsimp only at q1
  split at q1
  · rename_i t' e
    exact ⟨_, _, _, _, _, rfl, .ty _, ty_of r1 p1 e, kit_ty (kit_sub t' t ht), hq n1 _ _ μ1 s1 r1 (.bl _) q1⟩
  · exact q1.elim
/-! ### is None -/
def D.isN : D → Bool
  | .non => true
  | _ => false
def gIs : G2 := fun x y μ Q => match y with
  | .non => Q (.bl x.isN) μ
  | _ => False
def gIsNot : G2 := fun x y μ Q => match y with
  | .non => Q (.bl (!x.isN)) μ
  | _ => False
/-! ### in: flat things in a list or tuple, a sign in a text, a key in a dict -/
def inF (x : D) (xs : List D) : Bool := xs.any fun y => D.eqF y x
theorem eqF_of {K : PySem.W.Frag} {Hb : Hp} {al : List Addr} {v u : V} {d e : D} (r : Rep K Hb al v d) (q : Rep K Hb al u e) (h1 : d.flat = true) (h2 : e.flat = true) : eqV v u = D.eqF d e := by
  cases r <;> first | (simp [D.flat] at h1; done) | (cases q <;> first | (simp [D.flat] at h2; done) | rfl)
theorem flat_of {K : PySem.W.Frag} {Hb : Hp} {al : List Addr} {v : V} {d : D} (r : Rep K Hb al v d) (h : d.flat = true) : flatV v = true := by
  cases r <;> first | (simp [D.flat] at h; done) | rfl
theorem inF_of {K : PySem.W.Frag} {Hb : Hp} {al : List Addr} {v : V} {d : D} (r : Rep K Hb al v d) (h : d.flat = true) : ∀ {vs : List V} {ds : List D}, Reps K Hb al vs ds → ds.all D.flat = true → inV v vs = inF d ds ∧ vs.all flatV = true
  | _, _, .nil, _ => ⟨rfl, rfl⟩
  | _, _, .cons r1 r2, q => by
    simp only [List.all_cons, Bool.and_eq_true] at q
    obtain ⟨h1, h2⟩ := inF_of r h r2 q.2
    refine ⟨?_, by simp only [List.all_cons, flat_of r1 q.1, h2, Bool.and_self]⟩
    show (eqV _ v || inV v _) = (D.eqF _ d || inF d _)
    rw [eqF_of r1 r q.1 h, h1]
/-- one sign -/
def sgn (x : Str) : Option Nat := match x.cps.toList with
  | [c] => some c
  | _ => none
theorem sgn_eq {x : Str} {c : Nat} (h : sgn x = some c) : x = ⟨#[c]⟩ := by
  unfold sgn at h
  split at h
  · rename_i e
    cases h
    cases x with
    | mk cps => simp at e; cases cps; simp at e; subst e; rfl
  · cases h
def gIn (neg : Bool) : G2 := fun x y μ Q => match lk μ y with
  | .lst ys => (x.flat = true ∧ ys.all D.flat = true) ∧ Q (.bl (if neg then !inF x ys else inF x ys)) μ
  | .tup ys => (x.flat = true ∧ ys.all D.flat = true) ∧ Q (.bl (if neg then !inF x ys else inF x ys)) μ
  | .str z => (match x with
    | .str w => (match sgn w with | some c => Q (.bl (if neg then !decide (c ∈ z.cps.toList) else decide (c ∈ z.cps.toList))) μ | none => False)
    | _ => False)
  | _ => False
theorem op_gIn {K : PySem.W.Frag} : Op2 K (fun x y H Q => rIn K false x y H Q ∨ ∃ (c : Nat) (z : Str), x = .str ⟨#[c]⟩ ∧ y = .str z ∧ Q (.bl (decide (c ∈ z.cps.toList))) H) (gIn false) := fun n μ x y dx dy Qd Q s rx ry q l => by
  unfold gIn at q
  split at q
  · rename_i ys e
    obtain ⟨a, vs, rfl, h1, h2⟩ := see_lst s ry e
    obtain ⟨g1, g2⟩ := inF_of rx q.1.1 h2 q.1.2
    exact .inl ⟨a, vs, rfl, .inl (SqL.of h1), flat_of rx q.1.1, g2, by rw [g1]; exact l.now s (.bl _) q.2⟩
  · rename_i ys e
    obtain ⟨a, vs, rfl, h1, _, h2⟩ := see_tup s ry e
    obtain ⟨g1, g2⟩ := inF_of rx q.1.1 h2 q.1.2
    exact .inl ⟨a, vs, rfl, .inr (SqT.of h1), flat_of rx q.1.1, g2, by rw [g1]; exact l.now s (.bl _) q.2⟩
  · rename_i z e
    rw [lk_str e] at ry
    cases ry
    split at q
    · cases rx
      split at q
      · rename_i c e2
        exact .inr ⟨c, z, by rw [sgn_eq e2], rfl, l.now s (.bl _) q⟩
      · exact q.elim
    · exact q.elim
  · exact q.elim
theorem op_gNotIn {K : PySem.W.Frag} : Op2 K (fun x y H Q => rIn K true x y H Q ∨ ∃ (c : Nat) (z : Str), x = .str ⟨#[c]⟩ ∧ y = .str z ∧ Q (.bl (!decide (c ∈ z.cps.toList))) H) (gIn true) := fun n μ x y dx dy Qd Q s rx ry q l => by
  unfold gIn at q
  split at q
  · rename_i ys e
    obtain ⟨a, vs, rfl, h1, h2⟩ := see_lst s ry e
    obtain ⟨g1, g2⟩ := inF_of rx q.1.1 h2 q.1.2
    exact .inl ⟨a, vs, rfl, .inl (SqL.of h1), flat_of rx q.1.1, g2, by rw [g1]; exact l.now s (.bl _) q.2⟩
  · rename_i ys e
    obtain ⟨a, vs, rfl, h1, _, h2⟩ := see_tup s ry e
    obtain ⟨g1, g2⟩ := inF_of rx q.1.1 h2 q.1.2
    exact .inl ⟨a, vs, rfl, .inr (SqT.of h1), flat_of rx q.1.1, g2, by rw [g1]; exact l.now s (.bl _) q.2⟩
  · rename_i z e
    rw [lk_str e] at ry
    cases ry
    split at q
    · cases rx
      split at q
      · rename_i c e2
        exact .inr ⟨c, z, by rw [sgn_eq e2], rfl, l.now s (.bl _) q⟩
      · exact q.elim
    · exact q.elim
  · exact q.elim
theorem dt_in (ha : DE X W a fa) (hb : DE X W b fb) (hm : behindInMarks .In b = false := by rfl) : DT X W (.Compare a [.In] [b] pos) (dTest (dBin (gIn false) fa fb)) := dt_cmp (opr_or op_in_seq op_in_sign) op_gIn ha hb hm
theorem dt_notin (ha : DE X W a fa) (hb : DE X W b fb) (hm : behindInMarks .NotIn b = false := by rfl) : DT X W (.Compare a [.NotIn] [b] pos) (dTest (dBin (gIn true) fa fb)) := dt_cmp (opr_or op_notIn_seq op_notIn_sign) op_gNotIn ha hb hm
/-! ### methods of built-in types -/
def strD : List D → Option (List Str)
  | [] => some []
  | .str x :: xs => (strD xs).map (x :: ·)
  | _ => none
theorem strD_map (xs : List Str) : strD (xs.map D.str) = some xs := by
  induction xs with
  | nil => rfl
  | cons x xs ih => simp [strD, ih]
theorem strD_eq : ∀ {ds : List D} {xs : List Str}, strD ds = some xs → ds = xs.map D.str
  | [], xs, h => by simp [strD] at h; subst h; rfl
  | .str x :: ds, xs, h => by
    simp only [strD, Option.map_eq_some_iff] at h
    obtain ⟨ys, h1, rfl⟩ := h
    rw [strD_eq h1]; rfl
  | .non :: _, _, h => by simp [strD] at h
  | .bl _ :: _, _, h => by simp [strD] at h
  | .int _ :: _, _, h => by simp [strD] at h
  | .ref _ :: _, _, h => by simp [strD] at h
  | .cls _ :: _, _, h => by simp [strD] at h
  | .scr _ :: _, _, h => by simp [strD] at h
  | .lst _ :: _, _, h => by simp [strD] at h
  | .tup _ :: _, _, h => by simp [strD] at h
  | .dct _ :: _, _, h => by simp [strD] at h
  | .ins _ _ :: _, _, h => by simp [strD] at h
def dJoin (fo fe : DTE) : DTE := fun Γ μ Q E => fo Γ μ (fun x μ1 => (∃ a, x = .str a) ∧ fe Γ μ1 (fun y μ2 => match x with
  | .str a => (match lk μ2 y with
    | .lst ds => (match strD ds with | some ys => (ys.map (·.length)).sum + ys.length * a.length ≤ 16777216 ∧ Q (.str (Txt.join a ys)) μ2 | none => False)
    | .tup ds => (match strD ds with | some ys => (ys.map (·.length)).sum + ys.length * a.length ≤ 16777216 ∧ Q (.str (Txt.join a ys)) μ2 | none => False)
    | _ => False)
  | _ => False) E) E
theorem de_join (ho : DE X W o fa) (he : DE X W e fb) (hs : starEach [e] X.env = [(false, eval e X.env)] := by rfl) (hbase : attributeBase o "join" X.env (eval o X.env) = eval o X.env := by rfl) (hline : (apos.endLine == pos.line) = true := by rfl) :
    DE X W (.Call (.Attribute o "join" apos) [e] [] pos) (dJoin fa fb) := PE.imp (pe_join ho he hs hbase hline) fun σ H Q ⟨n, Γ, μ, Qd, Ed, hH, sr, gr, h, hq, hx⟩ => by
  subst hH
  refine lift_go sr gr h (fun n1 x dx μ1 s1 r1 p1 q1 => ?_) hx
  obtain ⟨⟨z, rfl⟩, q1⟩ := q1
  cases p1
  refine ⟨⟨z, rfl⟩, lift_go r1 (gr.step s1) q1 (fun n2 y dy μ2 s2 r2 p2 q2 => ?_) (hx.step s1)⟩
  dsimp only at q2
  split at q2
  · rename_i ds e
    split at q2
    · rename_i ys e2
      obtain ⟨a, vs, rfl, h1, h2⟩ := see_lst r2 p2 e
      rw [strD_eq e2] at h2
      have e3 := Reps.strs ys h2
      subst e3
      exact ⟨z, a, ys, rfl, rfl, .inl (SqL.of h1), q2.1, hq n2 _ _ μ2 (s1.trans s2) r2 (.str _) q2.2⟩
    · exact q2.elim
  · rename_i ds e
    split at q2
    · rename_i ys e2
      obtain ⟨a, vs, rfl, h1, _, h2⟩ := see_tup r2 p2 e
      rw [strD_eq e2] at h2
      have e3 := Reps.strs ys h2
      subst e3
      exact ⟨z, a, ys, rfl, rfl, .inr (SqT.of h1), q2.1, hq n2 _ _ μ2 (s1.trans s2) r2 (.str _) q2.2⟩
    · exact q2.elim
  · exact q2.elim
/-- a list's own method that writes: on a cell -/
def dCellM (g : List D → List D → Option (D × List D)) (fo : DTE) (fr : DTA) : DTE := fun Γ μ Q E => fo Γ μ (fun x μ1 => match x with
  | .ref l => (match μ1[l]? with
    | some (.lst _) => fr Γ μ1 (fun vs μ2 => match μ2[l]? with
      | some (.lst xs) => (match g xs vs with | some (d, ys) => Q d (μ2.set l (.lst ys)) | none => False)
      | _ => False) E
    | _ => False)
  | _ => False) E
def CellOp (K : PySem.W.Frag) (r : V → List V → Hp → VK → Prop) (g : List D → List D → Option (D × List D)) : Prop := ∀ Hb al H p (us vs : List V) (xs ds : List D) d ys (Q : VK), H p = some (.lst us) → Reps K Hb al us xs → Reps K Hb al vs ds → g xs ds = some (d, ys) →
  (∀ v ws, Rep K Hb al v d → Reps K Hb al ws ys → Q v (upd H p (.lst ws))) → r (.ref p) vs H Q
theorem cellm_go {K : PySem.W.Frag} {r : V → List V → Hp → VK → Prop} {g : List D → List D → Option (D × List D)} (hg : CellOp K r g) (σ : L2.St) (H : Hp) (Q : VK) (h : lift K W (dCellM g fa fr) σ H Q) : tBM K "list" r (lift K W fa) (liftA K W fr) σ H Q := by
  obtain ⟨n, Γ, μ, Qd, Ed, hH, sr, gr, h, hq, hx⟩ := h
  subst hH
  refine lift_go sr gr h (fun n1 x dx μ1 s1 r1 p1 q1 => ?_) hx
  cases p1 with
  | @ref l a hl =>
    dsimp only at q1
    split at q1
    · rename_i ys e
      obtain ⟨_, vs, h1, h2⟩ := r1.cell _ _ _ hl e
      refine ⟨.inl ⟨rfl, vs, SqL.of h1⟩, liftA_go r1 (gr.step s1) q1 (fun n2 vs2 ds2 μ2 s2 r2 p2 q2 => ?_) (hx.step s1)⟩
      try dsimp only at q2
      split at q2
      · rename_i xs e2
        have hl2 := pre_get s2.pre hl
        obtain ⟨hb, us, g1, g2⟩ := r2.cell _ _ _ hl2 e2
        split at q2
        · rename_i d zs e3
          refine hg n2.Hb n2.al n2.H a us vs2 xs ds2 d zs Q g1 g2 p2 e3 fun v ws rv rw' => ?_
          exact hq (n2.more a (.lst ws)) v d _ ((s1.trans s2).trans (Step.write hl2)) (r2.write hl2 hb (c := .lst zs) ⟨hb, ws, upd_same, rw'⟩ (fun k z => by cases z)) rv q2
        · exact q2.elim
      · exact q2.elim
    · exact q1.elim
  | _ => exact q1.elim
def cAppend : List D → List D → Option (D × List D) := fun xs ds => match ds with
  | [d] => if xs.length < sizeLine then some (.non, xs ++ [d]) else none
  | _ => none
theorem op_append {K : PySem.W.Frag} : CellOp K rAppend cAppend := fun Hb al H p us vs xs ds d ys Q hp r1 r2 hg k => by
  unfold cAppend at hg
  split at hg
  · split at hg
    · rename_i hl
      cases hg
      cases r2 with
      | cons q1 q2 =>
        cases q2
        exact ⟨p, us, _, rfl, rfl, hp, by rw [r1.length]; exact hl, k _ _ .non (r1.append (.cons q1 .nil))⟩
    · cases hg
  · cases hg
def cPop : List D → List D → Option (D × List D) := fun xs ds => match ds with
  | [.int i] => if -(2 ^ 63) ≤ i ∧ i < 2 ^ 63 then (match seqIndex? i xs.length with
    | some k => (xs[k]?).map fun y => (y, xs.eraseIdx k)
    | none => none) else none
  | _ => none
theorem op_popAt {K : PySem.W.Frag} : CellOp K rPopAt cPop := fun Hb al H p us vs xs ds d ys Q hp r1 r2 hg k => by
  unfold cPop at hg
  split at hg
  · split at hg
    · rename_i i hb
      split at hg
      · rename_i j e
        rw [Option.map_eq_some_iff] at hg
        obtain ⟨y, e2, e3⟩ := hg
        cases e3
        obtain ⟨v, h1, h2⟩ := r1.get e2
        cases r2 with
        | cons q1 q2 =>
          cases q2; cases q1
          exact ⟨p, us, i, j, v, rfl, rfl, hp, hb.1, hb.2, by rw [r1.length]; exact e, h1, k _ _ h2 (r1.eraseIdx j)⟩
      · cases hg
    · cases hg
  · cases hg
theorem de_append (ho : DE X W o fa) (ha : DE X W e fb) (hbase : attributeBase o "append" X.env (eval o X.env) = eval o X.env := by rfl)
    (hfew : ((backTo pos (starEach [e] X.env)).all (fun x => !x.1) && (backToKw pos (keywordEach [] X.env)).all (fun x => x.1.isSome) && decide ([e].length + ([] : List Keyword).length + (if ([] : List Keyword).isEmpty then 0 else 1) < 30)) = true := by rfl)
    (hline : (apos.endLine == pos.line) = true := by rfl) (hs : starEach [e] X.env = (false, eval e X.env) :: starEach [] X.env := by rfl) (hpl : (backTo pos (starEach [] X.env)).any (·.1) = false := by rfl) :
    DE X W (.Call (.Attribute o "append" apos) [e] [] pos) (dCellM cAppend fa (dCons fb dNil)) :=
  PE.imp (pe_bm PySem.F.plainAttrs_list PySem.F.slot_list_append PySem.F.type_list_append mt_append ho (da_cons ha da_nil hs) hbase hfew hline hs hpl) fun σ H Q h => cellm_go op_append σ H Q h
theorem de_popAt (ho : DE X W o fa) (ha : DE X W e fb) (hbase : attributeBase o "pop" X.env (eval o X.env) = eval o X.env := by rfl)
    (hfew : ((backTo pos (starEach [e] X.env)).all (fun x => !x.1) && (backToKw pos (keywordEach [] X.env)).all (fun x => x.1.isSome) && decide ([e].length + ([] : List Keyword).length + (if ([] : List Keyword).isEmpty then 0 else 1) < 30)) = true := by rfl)
    (hline : (apos.endLine == pos.line) = true := by rfl) (hs : starEach [e] X.env = (false, eval e X.env) :: starEach [] X.env := by rfl) (hpl : (backTo pos (starEach [] X.env)).any (·.1) = false := by rfl) :
    DE X W (.Call (.Attribute o "pop" apos) [e] [] pos) (dCellM cPop fa (dCons fb dNil)) :=
  PE.imp (pe_bm PySem.F.plainAttrs_list PySem.F.slot_list_pop PySem.F.type_list_pop mt_popAt ho (da_cons ha da_nil hs) hbase hfew hline hs hpl) fun σ H Q h => cellm_go op_popAt σ H Q h
/-! ### x[i] = v on a cell -/
def dSetI (fo fi : DTE) : DTG := fun d Γ μ Q E => fo Γ μ (fun x μ1 => fi Γ μ1 (fun i μ2 => match x, i with
  | .ref l, .int k => (match μ2[l]? with
    | some (.lst xs) => (match ixN xs.length k with | some j => Q Γ (μ2.set l (.lst (xs.set j d))) | none => False)
    | _ => False)
  | _, _ => False) E) E
theorem dg_setI {i : Expr} (ho : DE X W o fa) (hi : DE X W i fb) (h : PG X (.Subscript o i pos) (gSub (lift X.K W fa) (lift X.K W fb) rSetL)) : DG X W (.Subscript o i pos) (dSetI fa fb) := PG.imp h fun v σ H Q ⟨n, d, Γ, μ, Qd, Ed, hH, sr, gr, rp, h, hq, hx⟩ => by
  subst hH
  refine lift_go sr gr h (fun n1 x dx μ1 s1 r1 p1 q1 => lift_go r1 (gr.step s1) q1 (fun n2 y dy μ2 s2 r2 p2 q2 => ?_) (hx.step s1)) hx
  cases p1 with
  | @ref l a hl =>
    cases p2 with
    | int k =>
      dsimp only at q2
      split at q2
      · rename_i xs e
        split at q2
        · rename_i j e2
          have hl2 := pre_get s2.pre hl
          obtain ⟨hb, us, g1, g2⟩ := r2.cell _ _ _ hl2 e
          refine ⟨a, us, k, j, rfl, rfl, g1, by rw [g2.length]; exact e2, ?_⟩
          exact hq (n2.more a (.lst (us.set j v))) Γ σ _ ((s1.trans s2).trans (Step.write hl2)) (r2.write hl2 hb (c := .lst (xs.set j d)) ⟨hb, _, upd_same, Reps.set ((s1.trans s2).rep rp) j g2⟩ (fun k z => by cases z)) ((gr.step (s1.trans s2)).step (Step.write hl2)) q2
        · exact q2.elim
      · exact q2.elim
    | _ => exact q2.elim
  | _ => exact q2.elim
end
end DV
namespace DV
open PySem PySem.Spec PyProof.Rows L2
/-! ### slices -/
def cutL {α : Type} (xs : List α) (lo hi : Option Int) : List α := (xs.drop (HT.sIx xs.length 0 lo)).take (HT.sIx xs.length xs.length hi - HT.sIx xs.length 0 lo)
theorem reps_cut {K : PySem.W.Frag} {Hb : Hp} {al : List Addr} {vs : List V} {ds : List D} (r : Reps K Hb al vs ds) (lo hi : Option Int) : Reps K Hb al (cutV vs lo hi) (cutL ds lo hi) := by
  unfold cutV cutL
  rw [r.length]
  exact (r.drop _).take _
abbrev DTO := Gam → Mu → (Option Int → Mu → Prop) → (Exn → Mu → Prop) → Prop
def dNoPart : DTO := fun _ μ Q _ => Q none μ
def dPart (f : DTE) : DTO := fun Γ μ Q E => f Γ μ (fun d μ1 => match d with | .int i => Q (some i) μ1 | _ => False) E
def liftO (K : PySem.W.Frag) (W : WX) (f : DTO) : TO := fun σ H Q => ∃ n Γ μ Qd Ed, n.H = H ∧ SR0 K n μ ∧ GR K n Γ σ ∧ f Γ μ Qd Ed ∧
  (∀ n' o μ', Step n n' → SR0 K n' μ' → Qd o μ' → Q o n'.H) ∧ XLink K W n Γ σ Ed
def dSlice (fz : Bool) (f : DTE) (lo hi : DTO) : DTE := fun Γ μ Q E => f Γ μ (fun d μ1 => lo Γ μ1 (fun l μ2 => hi Γ μ2 (fun h μ3 => match lk μ3 d with
  | .lst xs => dFin fz (cutL xs l h) μ3 Q
  | .tup xs => Q (.tup (cutL xs l h)) μ3
  | .str z => z.length ≤ sizeLine ∧ Q (.str (cutS z l h)) μ3
  | _ => False) E) E) E
theorem cut_whole {α : Type} (xs : List α) (lo hi : Option Int) (h : HT.sIx xs.length 0 lo = 0 ∧ HT.sIx xs.length xs.length hi = xs.length) : cutL xs lo hi = xs := by
  unfold cutL
  rw [h.1, h.2]; simp
section
variable {X : Cx} {W : WX} {a e o i : Expr} {lo hi : Option Expr} {p2 pos : Pos} {fa fb fc : DTE} {fl fh : DTO}
theorem do_none : PO X none (liftO X.K W dNoPart) := ⟨fun pins s σ H Q I ⟨n, Γ, μ, Qd, Ed, hH, sr, gr, h, hq, hx⟩ => by
  subst hH
  exact (po_none (X := X)).run pins s σ n.H Q I (hq n none μ (Step.refl n) sr h)⟩
theorem do_some (h : DE X W e fa) : PO X (some e) (liftO X.K W (dPart fa)) := ⟨fun pins s σ H Q I ⟨n, Γ, μ, Qd, Ed, hH, sr, gr, hd, hq, hx⟩ => by
  subst hH
  refine (po_some h).run pins s σ n.H Q I (lift_go sr gr hd (fun n1 x dx μ1 s1 r1 p1 q1 => ?_) hx)
  cases p1 with
  | int j => exact ⟨j, rfl, hq n1 _ μ1 s1 r1 q1⟩
  | _ => exact q1.elim⟩
theorem de_slice (fz : Bool) (he : DE X W e fa) (hl : PO X lo (liftO X.K W fl)) (hu : PO X hi (liftO X.K W fh)) : DE X W (.Subscript e (.Slice lo hi none p2) pos) (dSlice fz fa fl fh) :=
  PE.imp (pe_slice (SlR.or sl_list (SlR.or sl_tupA sl_str)) he hl hu) fun σ H Q ⟨n, Γ, μ, Qd, Ed, hH, sr, gr, h, hq, hx⟩ => by
  subst hH
  refine lift_go sr gr h (fun n1 x dx μ1 s1 r1 p1 q1 => ⟨n1, Γ, μ1, _, _, rfl, r1, gr.step s1, q1, fun n2 l μ2 s2 r2 q2 => ⟨n2, Γ, μ2, _, _, rfl, r2, (gr.step s1).step s2, q2, fun n3 h μ3 s3 r3 q3 => ?_, (hx.step s1).step s2⟩, hx.step s1⟩) hx
  have st := (s1.trans s2).trans s3
  have p3 := (s2.trans s3).rep p1
  try dsimp only at q3
  split at q3
  · rename_i xs e
    obtain ⟨a, vs, rfl, h1, h2⟩ := see_lst r3 p3 e
    exact .inl ⟨a, vs, rfl, SqL.of h1, fun p hp => fin_lst (LV.step hq st) r3 hp (reps_cut h2 l h) q3⟩
  · rename_i xs e
    obtain ⟨a, vs, rfl, h1, h0, h2⟩ := see_tup r3 p3 e
    refine .inr (.inl ⟨a, vs, rfl, SqT.of h1, fun z => ?_, fun z p hp => new_tup (LV.step hq st) r3 hp (reps_cut h2 l h) q3⟩)
    rw [h2.length] at z
    rw [cut_whole xs l h z] at q3
    exact hq n3 _ _ μ3 st r3 (.tup h0 h2) q3
  · rename_i z e
    rw [lk_str e] at p3
    cases p3
    exact .inr (.inr ⟨z, rfl, q3.1, hq n3 _ _ μ3 st r3 (.str _) q3.2⟩)
  · exact q3.elim
/-! ### x[i] += e, on a cell -/
theorem pget_list : PGet X (fun o i H Q => ∃ p xs k v, o = .ref p ∧ i = .int k ∧ SqL X.K H p xs ∧ 0 ≤ k ∧ xs[k.toNat]? = some v ∧ Q v H) := by
  intro pins s σ H o i ov iv Q I ro ri h
  obtain ⟨p, xs, k, v, rfl, rfl, hq, h0, he, q⟩ := h
  cases ro
  obtain ⟨t, rfl⟩ := ri
  obtain ⟨its, r, pl, hz⟩ := I.list hq
  obtain ⟨u, eu, ru⟩ := r.get he
  have hl := r.length
  have hn := line63
  have hk : k.toNat < xs.length := (List.getElem?_eq_some_iff.mp he).1
  exact wpAny_getItem_list pl.isList h0 (by omega) (by simpa using eu) ⟨v, H, I, ru, q⟩
def dAugI (g : Int → Int → Int) (fo fi fe : DTE) : DTS := fun D Γ μ => fo Γ μ (fun x μ1 => fi Γ μ1 (fun i μ2 => match x, i with
  | .ref l, .int k => 0 ≤ k ∧ (match μ2[l]? with
    | some (.lst xs) => (match xs[k.toNat]? with
      | some (.int old) => fe Γ μ2 (fun y μ3 => match y with
        | .int b => (match μ3[l]? with
          | some (.lst ys) => k.toNat < ys.length ∧ D.nx Γ (μ3.set l (.lst (ys.set k.toNat (.int (g old b)))))
          | _ => False)
        | _ => False) (fun x μ1 => D.ex x Γ μ1)
      | _ => False)
    | _ => False)
  | _, _ => False) (fun x μ1 => D.ex x Γ μ1)) (fun x μ1 => D.ex x Γ μ1)
theorem ds_augI {g : Int → Int → Int} {op : Operator} {tpos : Pos} (ho : DE X W o fa) (hi : DE X W i fb) (he : DE X W e fc) (hp : PIp X op (ipI g)) (ha : ∀ ov iv new, augStore i ov iv new = (do holding [new, ov, iv] (setItem ov iv new); release [new, ov, iv] []; pure .next) := by intros; rfl) :
    DS X W (.AugAssign (.Subscript o i tpos) op e pos) (dAugI g fa fb fc) := PS.imp (ps_augS ho hi pget_list he hp set_list ha) fun Dn σ H ⟨A, n, Γ, μ, Dd, hH, sa, sr, gr, h, l⟩ => by
  subst hH
  have hx := l.x sa gr
  refine lift_go sr gr h (fun n1 x dx μ1 s1 r1 p1 q1 => lift_go r1 (gr.step s1) q1 (fun n2 y dy μ2 s2 r2 p2 q2 => ?_) (hx.step s1)) hx
  cases p1 with
  | @ref m a hl =>
    cases p2 with
    | int k =>
      obtain ⟨h0, q2⟩ := q2
      split at q2
      · rename_i xs e
        split at q2
        · rename_i old e2
          have hl2 := pre_get s2.pre hl
          obtain ⟨hb, us, g1, g2⟩ := r2.cell _ _ _ hl2 e
          obtain ⟨v, e3, e4⟩ := g2.get e2
          refine ⟨a, us, k, v, rfl, rfl, SqL.of g1, h0, e3, ?_⟩
          refine lift_go r2 ((gr.step s1).step s2) q2 (fun n3 z dz μ3 s3 r3 p3 q3 => ?_) ((hx.step s1).step s2)
          cases p3 with
          | int b =>
            cases e4
            refine ⟨old, b, rfl, rfl, ?_⟩
            dsimp only at q3
            split at q3
            · rename_i ys e5
              have hl3 := pre_get s3.pre hl2
              obtain ⟨hb3, ws, g3, g4⟩ := r3.cell _ _ _ hl3 e5
              refine ⟨a, ws, k, k.toNat, rfl, rfl, g3, ?_, ?_⟩
              · unfold ixN
                rw [if_pos h0, if_pos (by rw [g4.length]; omega)]
              · have st := ((sa.trans s1).trans s2).trans s3
                exact l.nx (n3.more a (.lst (ws.set k.toNat (.int (g old b))))) Γ σ _ (st.trans (Step.write hl3)) (r3.write hl3 hb3 (c := .lst (ys.set k.toNat (.int (g old b)))) ⟨hb3, _, upd_same, Reps.set (.int _) _ g4⟩ (fun k z => by cases z)) ((((gr.step s1).step s2).step s3).step (Step.write hl3)) q3.2
            · exact q3.elim
          | _ => exact q3.elim
        · exact q2.elim
      · exact q2.elim
    | _ => exact q2.elim
  | _ => exact q2.elim
/-! ### tests by truth -/
def truD : D → Option Bool
  | .non => some false
  | .bl b => some b
  | .int i => some (i != 0)
  | .lst xs => some (!xs.isEmpty)
  | .tup xs => some (!xs.isEmpty)
  | _ => none
def dTruth (f : DTE) : DTT := fun Γ μ Q E => f Γ μ (fun d μ1 => match lk μ1 d with
  | .str z => z.length ≤ sizeLine ∧ Q ((z.length : Int) != 0) μ1
  | d' => (match truD d' with | some b => Q b μ1 | none => False)) E
end
end DV
namespace DV
open PySem PySem.Spec PyProof.Rows L2
def pick {α : Type} (π : List Nat) (l : List α) : List α := π.filterMap (l[·]?)
section
variable {K : PySem.W.Frag} {Hb : Hp} {al : List Addr}
theorem Reps.getN : ∀ {vs : List V} {ds : List D} {i : Nat}, Reps K Hb al vs ds → ds[i]? = none → vs[i]? = none := fun {vs ds i} r e => by
  have h1 := r.length
  have h2 : ds.length ≤ i := List.getElem?_eq_none_iff.mp e
  exact List.getElem?_eq_none_iff.mpr (by omega)
theorem Reps.pick {vs : List V} {ds : List D} (r : Reps K Hb al vs ds) : ∀ π : List Nat, Reps K Hb al (DV.pick π vs) (DV.pick π ds)
  | [] => .nil
  | i :: π => by
    have ih := Reps.pick r π
    unfold DV.pick at ih ⊢
    cases e : ds[i]? with
    | none => rw [List.filterMap_cons_none e, List.filterMap_cons_none (r.getN e)]; exact ih
    | some d =>
      obtain ⟨v, h1, h2⟩ := r.get e
      rw [List.filterMap_cons_some e, List.filterMap_cons_some h1]
      exact .cons h2 ih
end
theorem vals_pick {vs : List V} {us : List Value} (r : Vals vs us) : ∀ π : List Nat, Vals (pick π vs) (pick π us)
  | [] => .nil
  | i :: π => by
    have ih := vals_pick r π
    unfold pick at ih ⊢
    cases e : vs[i]? with
    | none => rw [List.filterMap_cons_none e, List.filterMap_cons_none (Vals.none_of r e)]; exact ih
    | some d =>
      obtain ⟨v, h1, h2⟩ := Vals.get r e
      rw [List.filterMap_cons_some e, List.filterMap_cons_some h1]
      exact .cons h2 ih
/-- how positional arguments (np of them) and keywords ks come to the parameters ps: by places -/
def KBd (K : PySem.W.Frag) (fd : FuncData) (ps : List Str) (np : Nat) (ks : List Str) (π : List Nat) : Prop :=
  ∀ (s : Shared) (us ws : List Value), K.In s.heap → us.length = np → ws.length = ks.length → BindsTo s fd ⟨us, ks.zip ws⟩ (ps.zip (pick π (us ++ ws)))
section
variable {X : Cx} {W : WX} {k : Nat} {f : Addr} {fd : FuncData} {ps ks : List Str} {S : DSp} {x : Str} {p pos kpos : Pos} {e : Expr} {es : List Expr} {kws : List Keyword} {fa : DTE} {fr fk : DTA} {nm : Option Str} {π : List Nat} {np : Nat}
theorem run_deep {pins : List (Addr × Obj)} {σ : L2.St} {H : Hp} {s : Shared} {Q : VK} {us ws : List Value} {kw : List (Str × Value)} {vs : List V} (F : FnOk X.prog X.w X.K X.mg X.base (L2.CX X.prog X.w) k f fd ps (spOf X.K S)) (hr : Room k X.A) (tk : Takes X W)
    (I : Inv X pins σ H s) (hb : BindsTo s fd ⟨us, kw⟩ (ps.zip ws)) (r : Vals vs ws) (h : spOf X.K S vs H Q (WE W σ)) : wpAny (model X.prog X.w) X.A (call (.ref f) us kw) (EP X pins σ Q) X.xe s := by
  refine wpAny_call (codeAny_mono (F.run X.A X.stack s H ⟨us, kw⟩ ws vs Q (WE W σ) hr I.env0 hb r h) ?_)
  intro res s' hq
  match res, hq with
  | .error e, hq => exact passAt tk σ pins H s e s' I hq
  | .ok (.ret u), hq => exact I.after hq
abbrev DK (X : Cx) (W : WX) (kws : List Keyword) (f : DTA) : Prop := PK X kws (liftA X.K W f)
theorem PK.imp {t t' : TA} (h : PK X kws t) (hi : ∀ σ H Q, t' σ H Q → t σ H Q) : PK X kws t' := ⟨fun pos pins s σ H Q I q => h.run pos pins s σ H Q I (hi _ _ _ q)⟩
theorem dk_nil : DK X W [] dNil := PK.imp pk_nil fun σ H Q ⟨n, Γ, μ, Qd, Ed, hH, sr, gr, h, hq, hx⟩ => by
  subst hH
  exact hq n [] [] μ (Step.refl n) sr .nil h
theorem dk_cons (ha : DE X W e fa) (hr : DK X W kws fr) : DK X W (⟨nm, e, kpos⟩ :: kws) (dCons fa fr) := PK.imp (pk_cons ha hr) fun σ H Q ⟨n, Γ, μ, Qd, Ed, hH, sr, gr, h, hq, hx⟩ => by
  subst hH
  refine lift_go sr gr h (fun n1 x dx μ1 s1 r1 p1 q1 => liftA_go r1 (gr.step s1) q1 (fun n2 y dy μ2 s2 r2 p2 q2 => ?_) (hx.step s1)) hx
  exact hq n2 _ _ μ2 (s1.trans s2) r2 (.cons (s2.rep p1) p2) q2
/-- f(e, .., k = v, ..): the arguments by the places π -/
def dOpK (S : DSp) (π : List Nat) (np nk : Nat) (fr fk : DTA) : DTE := fun Γ μ Q E => fr Γ μ (fun xs μ1 => xs.length = np ∧ fk Γ μ1 (fun ys μ2 => ys.length = nk ∧ S (pick π (xs ++ ys)) μ2 Q E) E) E
end
end DV
namespace DV
open PySem PySem.Spec PyProof.Rows L2
def revS (z : Str) : Str := ⟨z.cps.toList.reverse.toArray⟩
theorem range_rev (l : List Nat) : ((List.range l.length).map fun k => l.length - 1 - k).filterMap (l[·]?) = l.reverse := by
  have e : ((List.range l.length).map fun k => l.length - 1 - k) = (List.range l.length).reverse := by
    apply List.ext_getElem (by simp)
    intro i h1 h2
    simp
  rw [e, List.filterMap_reverse]
  congr 1
  apply List.ext_getElem?
  intro i
  have : (List.range l.length).filterMap (l[·]?) = l := by
    clear e i
    induction l with
    | nil => rfl
    | cons a l ih =>
      rw [List.length_cons, List.range_succ_eq_map, List.filterMap_cons_some (b := a) (by simp), List.filterMap_map]
      congr 1
  rw [this]
def tRevA (K : PySem.W.Frag) (te : TE) : TE := fun σ H Q => te σ H fun x H1 => (∃ a xs, x = .ref a ∧ SqL K H1 a xs ∧ ∀ p, H1 p = none → Q (.ref p) (upd H1 p (.lst xs.reverse))) ∨ ∃ z, x = .str z ∧ z.length ≤ sizeLine ∧ Q (.str (revS z)) H1
section
variable {X : Cx} {W : WX} {e : Expr} {k : Nat} {q1 q2 q3 pos : Pos} {fa : DTE}
theorem pe_revA {te : TE} (he : PE X e te) : PE X (.Subscript e (.Slice none none (some (.UnaryOp .USub (.Constant (.int 1) k q1) q2)) q3) pos) (tRevA X.K te) := by
  constructor
  intro pins s σ H Q I h
  apply Subscript_
  refine thn (he.run pins s σ H _ I h) ?_
  rintro v s1 ⟨x, H1, I1, r1, qq⟩
  have stp : PO X (some (.UnaryOp .USub (.Constant (.int 1) k q1) q2)) (tPart (tUn (rU fun i => .int (-i)) (tC (.int 1)))) :=
    po_some (pe_un un_neg pe_int)
  apply wpAny_Slice
  refine thn (po_none.run pins s1 σ H1 (fun o H2 => o = none ∧ H2 = H1) I1 ⟨rfl, rfl⟩) ?_
  rintro vl s2 ⟨l, H2, I2, pl, rfl, rfl⟩
  refine thn (po_none.run pins s2 σ H2 (fun o H3 => o = none ∧ H3 = H2) I2 ⟨rfl, rfl⟩) ?_
  rintro vu s3 ⟨u, H3, I3, pu, rfl, rfl⟩
  refine thn (stp.run pins s3 σ H3 (fun o H4 => o = some (-1) ∧ H4 = H3) I3 ⟨1, rfl, -1, rfl, rfl, rfl⟩) ?_
  rintro vs s4 ⟨o, H4, I4, psx, rfl, rfl⟩
  have I5 : Inv X pins σ H4 { s4 with heap := s4.heap.push { cls := .type "slice", data := .fields #[vl, vu, vs] } } :=
    I4.kept (t' := s4.toks) (fun b ob q => Heap.get?_push_of_some _ q)
  rcases qq with ⟨a, xs, rfl, hx, q⟩ | ⟨z, rfl, hz, q⟩
  · cases r1
    obtain ⟨its, r, ht, hz⟩ := I5.list hx
    have hlen := r.length
    refine tail_any (ops := [.ref a, .ref s4.heap.objs.size]) ht.isList.typeIs (PySem.slot_list_getitem.lookup) ?_ (by with_unfolding_all rfl)
    refine wpAny_getItem_list_slice ht.isList (Heap.IsSliceOf.new _ vl vu vs) pl pu psx (by decide) ?_ (by rw [List.size_toArray]; omega)
    rw [PySem.W.krv_pick]
    refine ⟨.ref _, _, I5.laid (t' := s4.toks) (o := .lst xs.reverse) (fun b ob q => Heap.get?_push_of_some _ q) (Nat.le_refl _) ?_, rfl,
      q _ (I5.hok.fresh (Nat.le_refl _))⟩
    exact ⟨by rw [List.length_reverse]; exact hz, _, 0, r.reverse, Heap.get?_push_size _ rfl⟩
  · obtain ⟨t, rfl⟩ := r1
    refine tail_any (ops := [.str z t, .ref s4.heap.objs.size]) (typeIs_str _ _ _) F.slot_str_getitem.lookup ?_ (by with_unfolding_all rfl)
    obtain ⟨l, rfl, el⟩ := IsPart.raw pl
    obtain ⟨u, rfl, eu⟩ := IsPart.raw pu
    obtain ⟨sv, rfl, es⟩ := IsPart.raw psx
    obtain ⟨os, h1, h2, h3⟩ := Heap.IsSliceOf.new s4.heap (partValue l) (partValue u) (partValue sv)
    refine wpAny_getItem_str_slice (l := l) (u := u) (st := sv) ⟨os, h1, h2, h3⟩ (by rw [es]; rfl) ?_
    have hn : ¬ (((sv.map (·.1)).getD 1 == 1 && (slicePicked z l u sv).length == z.length) = true) := by rw [es]; simp
    have hp : (slicePicked z l u sv).filterMap (z.cps[·]?) = z.cps.toList.reverse := by
      unfold slicePicked
      rw [el, eu, es]
      show (Builtin.Str.strSliceIndices none none (-1) z.length).filterMap (z.cps[·]?) = _
      rw [picked_rev]
      have := range_rev z.cps.toList
      rw [Array.length_toList] at this
      show (List.map (fun k => z.cps.size - 1 - k) (List.range z.cps.size)).filterMap (z.cps[·]?) = _
      simpa using this
    unfold sliceMade
    rw [if_neg hn, hp]
    have hl : (revS z).length ≤ sizeLine := by
      show (z.cps.toList.reverse.toArray).size ≤ sizeLine
      rw [List.size_toArray, List.length_reverse]; exact hz
    exact ⟨hl, .str (revS z), H4, I5.tok _, ⟨_, rfl⟩, q⟩
def dRevA (fz : Bool) (f : DTE) : DTE := fun Γ μ Q E => f Γ μ (fun d μ1 => match lk μ1 d with
  | .lst xs => dFin fz xs.reverse μ1 Q
  | .str z => z.length ≤ sizeLine ∧ Q (.str (revS z)) μ1
  | _ => False) E
theorem de_revA (fz : Bool) (he : DE X W e fa) : DE X W (.Subscript e (.Slice none none (some (.UnaryOp .USub (.Constant (.int 1) k q1) q2)) q3) pos) (dRevA fz fa) :=
  PE.imp (pe_revA he) fun σ H Q ⟨n, Γ, μ, Qd, Ed, hH, sr, gr, h, hq, hx⟩ => by
  subst hH
  refine lift_go sr gr h (fun n1 x dx μ1 s1 r1 p1 q1 => ?_) hx
  try dsimp only at q1
  split at q1
  · rename_i xs e
    obtain ⟨a, vs, rfl, h1, h2⟩ := see_lst r1 p1 e
    exact .inl ⟨a, vs, rfl, SqL.of h1, fun p hp => fin_lst (LV.step hq s1) r1 hp h2.reverse q1⟩
  · rename_i z e
    rw [lk_str e] at p1
    cases p1
    exact .inr ⟨z, rfl, q1.1, hq n1 _ _ μ1 s1 r1 (.str _) q1.2⟩
  · exact q1.elim
end
/-! ### a def as its callers see it -/
def Has (P : Program) (w : World) (K : PySem.W.Frag) (mg : Str → Option Value) (base : Heap) (x : Str) (k : Nat) (ps : List Str) (S : DSp) (kb : FuncData → Prop) : Prop :=
  ∃ (f : Addr) (fd : FuncData), mg x = some (.ref f) ∧ PySem.W.keepIn K (.ref f) = true ∧ Binds K fd ps [] ∧ kb fd ∧ FnOk P w K mg base (L2.CX P w) k f fd ps (spOf K S)
section
variable {X : Cx} {W : WX} {k : Nat} {ps ks : List Str} {S : DSp} {kb : FuncData → Prop} {x : Str} {p pos : Pos} {e : Expr} {es : List Expr} {kws : List Keyword} {fr fk : DTA} {π : List Nat} {np nk : Nat}
theorem de_fnH (h : Has X.prog X.w X.K X.mg X.base x k ps S kb) (hr : Room k X.A) (hg : Gl X x) (tk : Takes X W) (ha : DA X W (e :: es) fr) (hdb : (x == ("__debug__" : Str)) = false := by decide)
    (he : starEach (e :: es) X.env = (false, eval e X.env) :: starEach es X.env := by rfl) (hpl : (backTo pos (starEach es X.env)).any (·.1) = false := by rfl) : DE X W (.Call (.Name x p) (e :: es) [] pos) (dOp S fr) := by
  obtain ⟨f, fd, h1, h2, h3, _, h5⟩ := h
  exact de_fn h5 hr hg h1 h2 h3 tk ha hdb he hpl
end
end DV
namespace DV
open PySem PySem.Spec PyProof.Rows L2
theorem atI_nat' {α : Type} {xs : List α} {i : Int} {d : α} (h0 : 0 ≤ i) (h : xs[i.toNat]? = some d) : atI xs i = some d := by
  have hl := (List.getElem?_eq_some_iff.mp h).1
  unfold atI ixN
  rw [if_pos h0, if_pos (by omega)]
  exact h
theorem atI_zero {α : Type} {x : α} {xs : List α} : atI (x :: xs) 0 = some x := atI_nat' (by decide) rfl
theorem sgn_one (c : Nat) : sgn ⟨#[c]⟩ = some c := rfl
end DV
local macro_rules | `(tactic| walk_at "dv") => `(tactic| try simp only [DV.dSeq, DV.dIf, DV.dOrT, DV.dAndT, DV.dNotT, DV.dTest, DV.dChain, DV.dC, DV.dCall, DV.gLen, DV.dCons, DV.dVar, DV.dNil, DV.dBin, DV.dUn, DV.gNeg, DV.gIn, DV.gIx, DV.dRet, DV.dRetN, DV.dNext, DV.dFor, DV.dIter, DV.dName, DV.lk, DV.dAsg, DV.dDrop, DV.gLst, DV.gTup, DV.gLstM, DV.gAdd, DV.gI, DV.gMod, DV.gMul, DV.gFdiv, DV.gPow, DV.gAbs, DV.gInt, DV.gList, DV.gTuple, DV.dOp, DV.dOpK, DV.dIsi, DV.tyD, DV.gIs, DV.gIsNot, DV.D.isN, DV.dJoin, DV.dCellM, DV.dSetI, DV.dSlice, DV.dPart, DV.dNoPart, DV.dRevA, DV.dFin, DV.dAugI, DV.dComp, DV.wipeG, DV.cName, DV.cPair, DV.dYes, DV.dRange1, DV.dRange2, DV.dAnd, DV.dOr, DV.dNot, DV.dIfE, DV.gEq, DV.gNe, DV.sgn_one, DV.atI_zero, DV.dTruth, DV.truD, DV.dBreak, DV.dCont,
  List.getElem?_cons_zero, List.getElem?_cons_succ, List.set_cons_zero, List.set_cons_succ, List.map_cons, List.map_nil, List.length_cons, List.length_nil, List.replicate, List.cons_append, List.nil_append, DV.start0, if_true, if_false, Bool.not_true, Bool.not_false, Bool.false_eq_true, Bool.true_and, Bool.and_true, Bool.or_true, Bool.true_or, Bool.false_or, Bool.or_false, eq_self_iff_true, not_true_eq_false, not_false_eq_true, ite_true, ite_false, cond_true, cond_false])
namespace DV
open PySem PySem.Spec PyProof.Rows L2
def LET : Str := "abcdefghijklmnopqrstuvwxyz"
def DIG : Str := "0123456789"
def t_valid_name : DTS := dSeq (dIf (dOrT (dNotT (dTest (dChain (fun i j => decide (i ≤ j)) (fun i j => decide (i ≤ j)) (dC (.int 1)) (dCall gLen (dCons (dVar 0) dNil)) (dC (.int 6))))) (dTest (dBin (gIn true) (dBin gIx (dVar 0) (dC (.int 0))) (dC (.str "abcdefghijklmnopqrstuvwxyz"))))) (dRet (dC (.bl false))) (dNext)) (dSeq (dFor (dIter (dVar 0)) (dName 1) (dIf (dAndT (dTest (dBin (gIn true) (dVar 1) (dC (.str "abcdefghijklmnopqrstuvwxyz")))) (dTest (dBin (gIn true) (dVar 1) (dC (.str "0123456789"))))) (dRet (dC (.bl false))) (dNext))) (dRet (dC (.bl true))))
/-- a name, by its code points -/
def isLet (c : Nat) : Bool := decide (c ∈ LET.cps.toList)
def isAln (c : Nat) : Bool := decide (c ∈ LET.cps.toList) || decide (c ∈ DIG.cps.toList)
def validC (l : List Nat) : Bool := decide (1 ≤ l.length) && decide (l.length ≤ 6) && (match l with | c :: _ => isLet c | [] => false) && l.all isAln
def validN (z : Str) : Bool := validC z.cps.toList
def S_valid_name : DSp := fun ds μ Q _ => ∃ z, ds = [.str z] ∧ z.length ≤ sizeLine ∧ Q (.bl (validN z)) μ
theorem lp_valid {z : Str} {De : DEnds} {μ : Mu} : ∀ (l : List Nat) (x : Option D), (l.all isAln = true → ∀ y, De.nx [some (.str z), y] μ) → (l.all isAln = false → De.rt (.bl false) μ) →
    dLoop none (dName 1) (dIf (dAndT (dTest (dBin (gIn true) (dVar 1) (dC (.str "abcdefghijklmnopqrstuvwxyz")))) (dTest (dBin (gIn true) (dVar 1) (dC (.str "0123456789"))))) (dRet (dC (.bl false))) dNext) (l.map fun c => D.str ⟨#[c]⟩) De [some (.str z), x] μ
  | [], x, h1, _ => ⟨trivial, h1 rfl x⟩
  | c :: l, x, h1, h2 => by
    have ih := lp_valid l (some (.str ⟨#[c]⟩)) (z := z) (De := De) (μ := μ)
    have e : isAln c = (decide (c ∈ (Str.ofString "abcdefghijklmnopqrstuvwxyz").cps.toList) || decide (c ∈ (Str.ofString "0123456789").cps.toList)) := rfl
    rw [List.map_cons, dLoop]
    refine ⟨trivial, ?_⟩
    walk_at "dv"
    rw [List.all_cons] at h1 h2
    cases e1 : decide (c ∈ (Str.ofString "abcdefghijklmnopqrstuvwxyz").cps.toList) with
    | true =>
      rw [e1, Bool.true_or] at e
      rw [e, Bool.true_and] at h1 h2
      walk_at "dv"
      exact ih h1 h2
    | false =>
      walk_at "dv"
      cases e2 : decide (c ∈ (Str.ofString "0123456789").cps.toList) with
      | true =>
        rw [e1, e2, Bool.false_or] at e
        rw [e, Bool.true_and] at h1 h2
        walk_at "dv"
        exact ih h1 h2
      | false =>
        rw [e1, e2, Bool.false_or] at e
        rw [e, Bool.false_and] at h2
        walk_at "dv"
        exact h2 rfl
theorem rd_valid_name : ∀ ds μ Q E, S_valid_name ds μ Q E → t_valid_name (dFn μ Q E) (start0 ["text", "char"] ds) μ := by
  rintro _ μ Q E ⟨z, rfl, hz, q⟩
  unfold t_valid_name
  walk_at "dv"
  refine ⟨hz, ?_⟩
  unfold validN validC at q
  have hl : z.length = z.cps.toList.length := by rw [Array.length_toList]; rfl
  cases hc : z.cps.toList with
  | nil =>
    rw [hc] at hl q
    rw [hl]
    exact FnEnd.here q
  | cons c l =>
    rw [hc] at hl q
    rw [hl]
    by_cases h6 : (c :: l).length ≤ 6
    · have a1 : decide (1 ≤ (((c :: l).length : Nat) : Int)) = true := decide_eq_true (by simp; omega)
      have a2 : decide ((((c :: l).length : Nat) : Int) ≤ 6) = true := decide_eq_true (by omega)
      have b1 : decide (1 ≤ (c :: l).length) = true := decide_eq_true (by simp)
      rw [b1, decide_eq_true h6] at q
      rw [a1, a2]
      walk_at "dv"
      have q : Q (D.bl (isLet c && (c :: l).all isAln)) μ := q
      refine ⟨by have := hz; rw [hl] at this; simpa using this, ?_⟩
      have e0 : isLet c = decide (c ∈ (Str.ofString "abcdefghijklmnopqrstuvwxyz").cps.toList) := rfl
      cases e1 : decide (c ∈ (Str.ofString "abcdefghijklmnopqrstuvwxyz").cps.toList) with
      | false =>
        rw [e1] at e0
        walk_at "dv"
        rw [e0] at q
        exact FnEnd.here (by simpa using q)
      | true =>
        rw [e1] at e0
        walk_at "dv"
        rw [e0] at q
        unfold signs
        rw [hc]
        refine lp_valid (c :: l) none (fun h y => FnEnd.here ?_) (fun h => FnEnd.here ?_)
        · rw [h] at q; exact q
        · rw [h] at q; exact q
    · have a2 : decide ((((c :: l).length : Nat) : Int) ≤ 6) = false := decide_eq_false (by omega)
      have a1 : decide (1 ≤ (((c :: l).length : Nat) : Int)) = true := decide_eq_true (by simp; omega)
      rw [a1, a2]
      walk_at "dv"
      rw [decide_eq_false h6] at q
      exact FnEnd.here (by simpa using q)
end DV
namespace DV
open PySem PySem.Spec PyProof.Rows L2
def t_draw : DTS := dSeq (dAugI (fun i j => i + j) (dVar 0) (dC (.int 2)) (dC (.int 1))) (dSeq (dWhile (dAndT (dTest (dBin gNe (dBin gIx (dVar 0) (dC (.int 0))) (dCall gLst (dNil)))) (dTest (dBin gEq (dBin gIx (dBin gIx (dVar 0) (dC (.int 0))) (dC (.int 0))) (dC (.int 0))))) (dAsg (dSlice false (dBin gIx (dVar 0) (dC (.int 0))) (dPart (dC (.int 1))) dNoPart) (dSetI (dVar 0) (dC (.int 0))))) (dSeq (dIf (dTest (dBin gNe (dBin gIx (dVar 0) (dC (.int 0))) (dCall gLst (dNil)))) (dSeq (dAsg (dBin gMod (dCall gInt (dCons (dBin gIx (dBin gIx (dVar 0) (dC (.int 0))) (dC (.int 0))) dNil)) (dVar 1)) (dName 2)) (dSeq (dAsg (dBin gFdiv (dBin gIx (dBin gIx (dVar 0) (dC (.int 0))) (dC (.int 0))) (dVar 1)) (dSetI (dBin gIx (dVar 0) (dC (.int 0))) (dC (.int 0)))) (dRet (dVar 2)))) (dNext)) (dSeq (dAsg (dBin gMod (dCall gInt (dCons (dBin gIx (dBin gIx (dVar 0) (dC (.int 1))) (dBin gMod (dCall gInt (dCons (dBin gIx (dVar 0) (dC (.int 2))) dNil)) (dCall gLen (dCons (dBin gIx (dVar 0) (dC (.int 1))) dNil)))) dNil)) (dC (.int 2147483647))) (dName 3)) (dSeq (dAsg (dBin gMod (dCall gInt (dCons (dBin gPow (dBin gAdd (dBin gAdd (dBin gMul (dVar 3) (dC (.int 48271))) (dBin gMul (dBin gIx (dVar 0) (dC (.int 2))) (dC (.int 69621)))) (dC (.int 7))) (dC (.int 5))) dNil)) (dC (.int 2147483647))) (dName 4)) (dRet (dBin gMod (dBin gMod (dCall gInt (dCons (dBin gPow (dBin gAdd (dBin gAdd (dBin gMul (dVar 4) (dC (.int 16807))) (dBin gMul (dBin gIx (dVar 0) (dC (.int 2))) (dC (.int 40692)))) (dC (.int 13))) (dC (.int 5))) dNil)) (dC (.int 2147483629))) (dVar 1)))))))
structure StA (μ : Mu) (l l0 l1 : Nat) (k : Int) (xs ys : List Int) : Prop where
  c : μ[l]? = some (.lst [.ref l0, .ref l1, .int k])
  c0 : μ[l0]? = some (.lst (xs.map .int))
  c1 : μ[l1]? = some (.lst (ys.map .int))
  n0 : l ≠ l0
  n1 : l ≠ l1
  n01 : l0 ≠ l1
theorem okn_ints (k : Nat) (xs : List Int) : D.okn (k + 1) (.lst (xs.map D.int)) = true := by
  simp [D.okn]
theorem eqv_nil (xs : List Int) (k : Nat) : PyData.eqv (D.py (k + 1) (.lst (xs.map D.int))) (D.py (k + 1) (.lst [])) = xs.isEmpty := by
  cases xs with
  | nil => simp [D.py, PyData.eqv, PyData.eqvAll]
  | cons x xs => simp [D.py, PyData.eqv, PyData.eqvAll]
theorem deq_int (μ : Mu) (i j : Int) : deq μ (.int i) (.int j) = decide (i = j) := by
  show PyData.eqv (.int i) (.int j) = _
  simp only [PyData.eqv]
  rfl
theorem deqOk_int (μ : Mu) (i j : Int) : deqOk μ (.int i) (.int j) := ⟨rfl, rfl⟩
theorem lk_cell {μ : Mu} {l : Nat} {xs : List D} (h : μ[l]? = some (.lst xs)) : lk μ (.ref l) = .lst xs := by
  unfold lk; dsimp only; rw [h]
theorem deq_nil {μ : Mu} {l : Nat} {xs : List Int} (h : μ[l]? = some (.lst (xs.map .int))) : deqOk μ (.ref l) (.lst []) ∧ deq μ (.ref l) (.lst []) = xs.isEmpty := by
  unfold deqOk deq
  rw [lk_cell h]
  exact ⟨⟨okn_ints 11 xs, rfl⟩, eqv_nil xs 11⟩
/-- what a draw leaves of the other cells -/
def FrA (μ : Mu) (l l0 : Nat) (μ' : Mu) (l0' : Nat) : Prop := μ.length ≤ μ'.length ∧ (∀ i, i < μ.length → i ≠ l → i ≠ l0 → μ'[i]? = μ[i]?) ∧ (∃ zs, μ'[l0]? = some (.lst zs)) ∧ (l0' = l0 ∨ μ.length ≤ l0')
def S_drawE : DSp := fun ds μ Q _ => ∃ l l0 l1 k xs ys m, ds = [.ref l, .int m] ∧ StA μ l l0 l1 k xs ys ∧ 0 < m ∧ m.natAbs.log2 < 9000 ∧ 0 ≤ k ∧ k + 1 ≤ 1099511627776 ∧ (∀ x ∈ xs, 0 ≤ x) ∧ ys ≠ [] ∧
  ∀ d μ' l0' xs', 0 ≤ d → d < m → StA μ' l l0' l1 (k + 1) xs' ys → xs'.length ≤ xs.length → (∀ x ∈ xs', 0 ≤ x) → FrA μ l l0 μ' l0' → Q (.int d) μ'
def bodyA : DTS := dAsg (dSlice false (dBin gIx (dVar 0) (dC (.int 0))) (dPart (dC (.int 1))) dNoPart) (dSetI (dVar 0) (dC (.int 0)))
def testA : DTT := dAndT (dTest (dBin gNe (dBin gIx (dVar 0) (dC (.int 0))) (dCall gLst (dNil)))) (dTest (dBin gEq (dBin gIx (dBin gIx (dVar 0) (dC (.int 0))) (dC (.int 0))) (dC (.int 0))))
theorem StA.ix0 {μ : Mu} {l l0 l1 : Nat} {k : Int} {xs ys : List Int} (h : StA μ l l0 l1 k xs ys) (Q : D → Mu → Prop) : gIx (.ref l) (.int 0) μ Q = Q (.ref l0) μ := by
  unfold gIx; rw [lk_cell h.c]; rfl
theorem StA.ix1 {μ : Mu} {l l0 l1 : Nat} {k : Int} {xs ys : List Int} (h : StA μ l l0 l1 k xs ys) (Q : D → Mu → Prop) : gIx (.ref l) (.int 1) μ Q = Q (.ref l1) μ := by
  unfold gIx; rw [lk_cell h.c]; rfl
theorem StA.ix2 {μ : Mu} {l l0 l1 : Nat} {k : Int} {xs ys : List Int} (h : StA μ l l0 l1 k xs ys) (Q : D → Mu → Prop) : gIx (.ref l) (.int 2) μ Q = Q (.int k) μ := by
  unfold gIx; rw [lk_cell h.c]; rfl
theorem StA.ix00 {μ : Mu} {l l0 l1 : Nat} {k x : Int} {xs ys : List Int} (h : StA μ l l0 l1 k (x :: xs) ys) (Q : D → Mu → Prop) : gIx (.ref l0) (.int 0) μ Q = Q (.int x) μ := by
  unfold gIx; rw [lk_cell h.c0]; simp only [List.map_cons, atI_zero]
theorem cut1 (x : Int) (xs : List Int) : cutL ((x :: xs).map D.int) (some 1) none = xs.map D.int := by
  have h1 : HT.sIx ((x :: xs).map D.int).length 0 (some 1) = 1 := by
    simp [HT.sIx]
  have h2 : HT.sIx ((x :: xs).map D.int).length ((x :: xs).map D.int).length none = xs.length + 1 := by simp [HT.sIx]
  unfold cutL
  rw [h1, h2]
  simp
  have := List.take_length (l := xs.map D.int)
  rwa [List.length_map] at this
theorem whileA {l l1 : Nat} {k : Int} {ys : List Int} {De : DEnds} {r : Gam} : ∀ (xs : List Int) (μ : Mu) (l0 : Nat), StA μ l l0 l1 k xs ys →
    (∀ μ' l0' xs', StA μ' l l0' l1 k xs' ys → (∀ x, xs'.head? = some x → x ≠ 0) → xs'.length ≤ xs.length → (∀ x ∈ xs', x ∈ xs) → μ.length ≤ μ'.length → (∀ i, i < μ.length → i ≠ l → μ'[i]? = μ[i]?) → (l0' = l0 ∨ μ.length ≤ l0') → De.nx (some (.ref l) :: r) μ') →
    dWhileN testA bodyA (xs.length + 1) De (some (.ref l) :: r) μ
  | [], μ, l0, h, k1 => by
    obtain ⟨o1, o2⟩ := deq_nil (xs := []) h.c0
    simp only [dWhileN, testA, dAndT, dTest, dBin, dVar, dC, dCall, dNil, gLst, List.getElem?_cons_zero, List.length_nil, h.ix0, gNe, o2]
    refine ⟨by decide, o1, ?_⟩
    simp only [List.isEmpty_nil, Bool.not_true, cond_false]
    exact k1 μ l0 [] h (by simp) (Nat.le_refl _) (by simp) (Nat.le_refl _) (fun _ _ _ => rfl) (.inl rfl)
  | x :: xs, μ, l0, h, k1 => by
    obtain ⟨o1, o2⟩ := deq_nil h.c0
    have hlt : l < μ.length := (List.getElem?_eq_some_iff.mp h.c).1
    have hlt0 : l0 < μ.length := (List.getElem?_eq_some_iff.mp h.c0).1
    have hlt1 : l1 < μ.length := (List.getElem?_eq_some_iff.mp h.c1).1
    rw [List.length_cons, dWhileN]
    simp only [testA, dAndT, dTest, dBin, dVar, dC, dCall, dNil, gLst, List.getElem?_cons_zero, List.length_nil, h.ix0, gNe, o2, List.isEmpty_cons, Bool.not_false, cond_true, h.ix00, gEq, deq_int]
    refine ⟨by decide, o1, deqOk_int _ _ _, ?_⟩
    by_cases hx : x = 0
    · rw [decide_eq_true hx, cond_true]
      -- state[0] = state[0][1:]
      simp only [bodyA, dAsg, dSlice, dBin, dVar, dC, dPart, dNoPart, List.getElem?_cons_zero, h.ix0, lk_cell h.c0, dFin, cut1]
      have g : (μ ++ [Cell.lst (xs.map D.int)])[l]? = some (.lst [.ref l0, .ref l1, .int k]) := by rw [List.getElem?_append_left hlt]; exact h.c
      simp only [dSetI, dVar, dC, List.getElem?_cons_zero, g]
      show match ixN 3 0 with | some j => _ | none => False
      show dWhileN testA bodyA (xs.length + 1) De (some (.ref l) :: r) ((μ ++ [Cell.lst (xs.map D.int)]).set l (.lst [.ref μ.length, .ref l1, .int k]))
      have ga : ∀ i, i < μ.length → i ≠ l → ((μ ++ [Cell.lst (xs.map D.int)]).set l (.lst [.ref μ.length, .ref l1, .int k]))[i]? = μ[i]? := fun i h1 h2 => by
        rw [List.getElem?_set_ne (Ne.symm h2), List.getElem?_append_left h1]
      refine whileA xs _ μ.length ⟨by rw [List.getElem?_set_self (by simp; omega)], by rw [List.getElem?_set_ne (by omega)]; simp, by rw [ga l1 hlt1 (Ne.symm h.n1)]; exact h.c1, by omega, h.n1, by omega⟩ fun μ' l0' xs' a1 a2 a3 a4 a5 a6 a7 => ?_
      rw [List.length_set, List.length_append] at a5 a7
      refine k1 μ' l0' xs' a1 a2 (by simp; omega) (fun y hy => by simp [a4 y hy]) (by simp at a5; omega) (fun i h1 h2 => ?_) ?_
      · rw [a6 i (by simp; omega) h2, ga i h1 h2]
      · rcases a7 with a7 | a7
        · exact .inr (by omega)
        · exact .inr (by simp at a7; omega)
    · rw [decide_eq_false hx, cond_false]
      exact k1 μ l0 (x :: xs) h (by simpa using hx) (Nat.le_refl _) (fun _ h => h) (Nat.le_refl _) (fun _ _ _ => rfl) (.inl rfl)
theorem fmod_lt {d m : Int} (h : 0 < m) : 0 ≤ d.fmod m ∧ d.fmod m < m := ⟨Int.fmod_nonneg_of_pos d h, Int.fmod_lt_of_pos d h⟩
theorem pow_ok {i : Int} (h : 0 ≤ i) (h2 : i < 18446744073709551616) : (0 : Int) ≤ 5 ∧ (5 : Int) ≤ 1000000 ∧ i.natAbs < 2 ^ 64 := ⟨by decide, by decide, by omega⟩
theorem rd_drawE : ∀ ds μ Q E, S_drawE ds μ Q E → t_draw (dFn μ Q E) (start0 ["_law_state", "_law_size", "_law_digit", "_law_cell", "_law_one"] ds) μ := by
  rintro _ μ Q E ⟨l, l0, l1, k, xs, ys, m, rfl, h, hm, hm2, hk0, hk1, hx0, hy, q⟩
  have hlt : l < μ.length := (List.getElem?_eq_some_iff.mp h.c).1
  unfold t_draw
  simp only [dSeq, dAugI, dVar, dC, start0, List.map_cons, List.map_nil, List.length_cons, List.length_nil, List.replicate, List.cons_append, List.nil_append, List.getElem?_cons_zero, h.c]
  refine ⟨by decide, ?_⟩
  show _ ∧ _
  refine ⟨by decide, ?_⟩
  have h1 : StA (μ.set l (.lst [.ref l0, .ref l1, .int (k + 1)])) l l0 l1 (k + 1) xs ys :=
    ⟨by rw [List.getElem?_set_self hlt], by rw [List.getElem?_set_ne h.n0]; exact h.c0, by rw [List.getElem?_set_ne h.n1]; exact h.c1, h.n0, h.n1, h.n01⟩
  refine ⟨xs.length + 1, whileA xs _ l0 h1 fun μ2 l2 xs2 h2 hh hle hin hl2 hf2 ho2 => ?_⟩
  rw [List.length_set] at hl2 ho2
  have hf2' : ∀ i, i < μ.length → i ≠ l → μ2[i]? = μ[i]? := fun i a b => by rw [hf2 i (by rw [List.length_set]; exact a) b, List.getElem?_set_ne (Ne.symm b)]
  have hlt0 : l0 < μ.length := (List.getElem?_eq_some_iff.mp h.c0).1
  obtain ⟨o1, o2⟩ := deq_nil h2.c0
  have hlt2 : l2 < μ2.length := (List.getElem?_eq_some_iff.mp h2.c0).1
  simp only [dSeq, dIf, dTest, dBin, dVar, dC, dCall, dNil, gLst, List.getElem?_cons_zero, List.length_nil, h2.ix0, gNe, o2]
  refine ⟨by decide, o1, ?_⟩
  cases xs2 with
  | cons x xs2 =>
    simp only [List.isEmpty_cons, Bool.not_false, cond_true, dSeq, dAsg, dBin, dCall, dCons, dNil, dVar, dC, List.getElem?_cons_zero, List.getElem?_cons_succ, h2.ix0, h2.ix00, gInt, gMod, gFdiv, dName, List.set_cons_succ, List.set_cons_zero, dSetI, h2.c0, dRet]
    refine ⟨by omega, ⟨hm, hm2⟩, ?_⟩
    have ix : ixN ((x :: xs2).map D.int).length 0 = some 0 := by
      unfold ixN
      rw [if_pos (by decide), if_pos (by simp)]; rfl
    simp only [ix]
    show FnEnd μ (.int (x.fmod m)) (μ2.set l2 (.lst ((D.int (x / m)) :: xs2.map D.int))) Q
    refine FnEnd.here (q _ _ l2 (x / m :: xs2) (fmod_lt hm).1 (fmod_lt hm).2 ⟨by rw [List.getElem?_set_ne (Ne.symm h2.n0)]; exact h2.c, by rw [List.getElem?_set_self hlt2]; rfl, by rw [List.getElem?_set_ne h2.n01]; exact h2.c1, h2.n0, h2.n1, h2.n01⟩ (by simpa using hle) (fun y hy => ?_) ⟨by rw [List.length_set]; exact hl2, fun i a b c => ?_, ?_, ho2⟩)
    · rcases List.mem_cons.mp hy with rfl | hy
      · exact Int.ediv_nonneg (hx0 x (hin x (by simp))) (by omega)
      · exact hx0 y (hin y (by simp [hy]))
    · rw [List.getElem?_set_ne (by rcases ho2 with z | z <;> omega)]
      exact hf2' i a b
    · by_cases e : l2 = l0
      · exact ⟨_, by rw [← e, List.getElem?_set_self hlt2]⟩
      · exact ⟨_, by rw [List.getElem?_set_ne e, hf2' l0 hlt0 (Ne.symm h.n0)]; exact h.c0⟩
  | nil =>
    simp only [List.isEmpty_nil, Bool.not_true, cond_false, dNext]
    -- the cell of the script at the count's place
    have hlen : 0 < ys.length := List.length_pos_iff.mpr hy
    obtain ⟨c, hc⟩ : ∃ c, atI (ys.map D.int) ((k + 1).fmod ((ys.map D.int).length : Int)) = some (D.int c) := by
      have b := fmod_lt (d := k + 1) (m := ((ys.map D.int).length : Int)) (by simp; omega)
      have hi : ((k + 1).fmod ((ys.map D.int).length : Int)).toNat < ys.length := by
        have := b.2; simp at this ⊢; omega
      exact ⟨ys[((k + 1).fmod ((ys.map D.int).length : Int)).toNat], atI_nat' b.1 (by rw [List.getElem?_map, List.getElem?_eq_getElem hi]; rfl)⟩
    have e1 : ∀ Q', gIx (.ref l1) (.int ((k + 1).fmod ((ys.map D.int).length : Int))) μ2 Q' = Q' (.int c) μ2 := fun Q' => by
      unfold gIx; rw [lk_cell h2.c1]; dsimp only; rw [hc]
    have hnz : ((ys.map D.int).length : Int) ≠ 0 := by simp; omega
    simp only [dSeq, dAsg, dBin, dCall, dCons, dNil, dVar, dC, List.getElem?_cons_zero, List.getElem?_cons_succ, h2.ix1, h2.ix2, gInt, gMod, gLen, lk_cell h2.c1, dName, List.set_cons_succ, List.set_cons_zero, e1]
    have bc := fmod_lt (d := c) (m := 2147483647) (by decide)
    generalize c.fmod 2147483647 = c' at bc ⊢
    refine ⟨hnz, by decide, ?_⟩
    simp only [gMul, lk, gAdd, gPow, dRet, dBin, dCall, dCons, dNil, dVar, dC, List.getElem?_cons_zero, List.getElem?_cons_succ, h2.ix2, gInt, gMod]
    refine ⟨.inr ⟨by decide, by decide⟩, .inr ⟨by decide, by decide⟩, pow_ok (by omega) (by omega), by decide, ?_⟩
    have bo := fmod_lt (d := (c' * 48271 + (k + 1) * 69621 + 7) ^ (5 : Int).toNat) (m := 2147483647) (by decide)
    generalize ((c' * 48271 + (k + 1) * 69621 + 7) ^ (5 : Int).toNat).fmod 2147483647 = c2 at bo ⊢
    refine ⟨.inr ⟨by decide, by decide⟩, .inr ⟨by decide, by decide⟩, pow_ok (by omega) (by omega), by decide, by omega, ?_⟩
    generalize ((c2 * 16807 + (k + 1) * 40692 + 13) ^ (5 : Int).toNat).fmod 2147483629 = c3
    refine FnEnd.here (q _ μ2 l2 [] (fmod_lt hm).1 (fmod_lt hm).2 h2 (by simp) (by simp) ⟨hl2, fun i a b _ => hf2' i a b, ⟨_, by rw [hf2' l0 hlt0 (Ne.symm h.n0)]; exact h.c0⟩, ho2⟩)
end DV
namespace DV
open PySem PySem.Spec PyProof.Rows L2
/-- a draw, as the law's defs see it: any number below the size; the oracle has one draw less -/
def S_draw : DSp := fun ds μ Q _ => ∃ l n m, ds = [.ref l, .int m] ∧ μ[l]? = some (.orc (n + 1, true)) ∧ 0 < m ∧ m.natAbs.log2 < 9000 ∧ ∀ d, 0 ≤ d → d < m → Q (.int d) (μ.set l (.orc (n, true)))
theorem reps_ref {K : PySem.W.Frag} {Hb : Hp} {al : List Addr} {vs : List V} {i j : Nat} {k : Int} (r : Reps K Hb al vs [.ref i, .ref j, .int k]) : ∃ a b, vs = [.ref a, .ref b, .int k] ∧ al[i]? = some a ∧ al[j]? = some b := by
  cases r with
  | cons h1 r =>
    cases r with
    | cons h2 r =>
      cases r with
      | cons h3 r =>
        cases r
        cases h1; cases h2; cases h3
        exact ⟨_, _, rfl, by assumption, by assumption⟩
theorem CellAt.sub {K : PySem.W.Frag} {n n' : Now} {a : Addr} {c : Cell} (h : CellAt K n a c) (ho : ∀ k, c ≠ .orc k) (ha : n'.H a = n.H a) (hb : n.Hb a = none → n'.Hb a = none) (s : Same n.Hb n'.Hb) (pr : n.al <+: n'.al) : CellAt K n' a c := by
  cases c with
  | gone => trivial
  | lst ds => obtain ⟨h0, vs, h1, h2⟩ := h; exact ⟨hb h0, vs, ha.trans h1, h2.mono s pr⟩
  | dct kvs => obtain ⟨h0, vs, h1, h2, h3⟩ := h; exact ⟨hb h0, vs, ha.trans h1, h2, h3.mono s pr⟩
  | ins C fs => obtain ⟨h0, dx, vs, h1, h2, h3⟩ := h; exact ⟨hb h0, dx, vs, ha.trans h1, h2, h3.mono s pr⟩
  | orc k => exact absurd rfl (ho k)
  | exc dd fs => obtain ⟨h0, he, us, h1, h2, h3⟩ := h; exact ⟨hb h0, he, us, ha.trans h1, h2, fun f v e => let ⟨d, e1, e2⟩ := h3 f v e; ⟨d, e1, e2.mono s pr⟩⟩
theorem CellAt.back {K : PySem.W.Frag} {n n' : Now} {a : Addr} {c : Cell} {ph : List Addr} (h0 : CellAt K n a c) (h : CellAt K n' a c) (ho : ∀ k, c ≠ .orc k) (pr : n.al <+: n'.al) : CellAt K ⟨n'.Hb, n'.H, n.al, ph⟩ a c := by
  cases c with
  | gone => trivial
  | lst ds => obtain ⟨_, _, _, z⟩ := h0; obtain ⟨h0, vs, h1, h2⟩ := h; exact ⟨h0, vs, h1, Reps.back pr z h2⟩
  | dct kvs => obtain ⟨_, _, _, _, z⟩ := h0; obtain ⟨h0, vs, h1, h2, h3⟩ := h; exact ⟨h0, vs, h1, h2, Reps.back pr z h3⟩
  | ins C fs => obtain ⟨_, _, _, _, _, z⟩ := h0; obtain ⟨h0, dx, vs, h1, h2, h3⟩ := h; exact ⟨h0, dx, vs, h1, h2, Reps.back pr z h3⟩
  | orc k => exact absurd rfl (ho k)
  | exc dd fs => obtain ⟨_, _, us0, _, h5, h4⟩ := h0; obtain ⟨h0, he, us, h1, h2, h3⟩ := h; exact ⟨h0, he, us, h1, h2, exc_back pr h5 h4 h3⟩
theorem get_app2 {α : Type} {l : List α} {x y : α} : (l ++ [x, y])[l.length]? = some x ∧ (l ++ [x, y])[l.length + 1]? = some y := by
  constructor
  · rw [List.getElem?_append_right (Nat.le_refl _)]; simp
  · rw [List.getElem?_append_right (by omega)]; simp
theorem get_app2_lt {α : Type} {l : List α} {x y z : α} {i : Nat} (h : (l ++ [x, y])[i]? = some z) : (i < l.length ∧ l[i]? = some z) ∨ (i = l.length ∧ z = x) ∨ (i = l.length + 1 ∧ z = y) := by
  by_cases hi : i < l.length
  · rw [List.getElem?_append_left hi] at h; exact .inl ⟨hi, h⟩
  · have hl := (List.getElem?_eq_some_iff.mp h).1
    simp at hl
    by_cases h2 : i = l.length
    · subst h2; rw [get_app2.1] at h; cases h; exact .inr (.inl ⟨rfl, rfl⟩)
    · have h3 : i = l.length + 1 := by omega
      subst h3; rw [get_app2.2] at h; cases h; exact .inr (.inr ⟨rfl, rfl⟩)
theorem draw_orc {K : PySem.W.Frag} (vs : List V) (H : Hp) (Q : VK) (E : XK) (h : spOf K S_draw vs H Q E) : spOf K S_drawE vs H Q E := by
  obtain ⟨n, ds, μ, Qd, Ed, hH, sr, rp, ⟨l, c, m, rfl, hl, hm, hm2, q⟩, hq, hx⟩ := h
  subst hH
  have hll : l < n.al.length := by rw [sr.len]; exact (List.getElem?_eq_some_iff.mp hl).1
  obtain ⟨a, ha⟩ : ∃ a, n.al[l]? = some a := ⟨n.al[l], List.getElem?_eq_getElem hll⟩
  obtain ⟨hba, oa⟩ := sr.cell l a _ ha hl
  obtain ⟨a0, xs, y, k, hbb, e2, e3, e4, e5, e6⟩ := oa
  have e6' := e6.resolve_right (fun z => by cases z.1)
  obtain ⟨_, b1, ys, rfl, f2, f3, f4, f5, f6, f7⟩ := e6'
  have p0 := sr.phb a0 (by rw [f2]; simp)
  have p1 := sr.phb b1 (by rw [f2]; simp)
  have na0 : a ≠ a0 := fun z => p0.2.1 (z ▸ List.mem_of_getElem? ha)
  have noc : ∀ (i : Nat) c', μ[i]? = some c' → i ≠ l → ∀ k, c' ≠ .orc k := fun i c' h1 h2 k z => by
    subst z; exact h2 (sr.orc1 i l k _ h1 hl)
  -- the explicit state
  have hpre : n.al <+: n.al ++ [a0, b1] := List.prefix_append _ _
  have lenL : n.al.length = μ.length := sr.len
  let μE : Mu := (μ.set l (.lst [.ref μ.length, .ref (μ.length + 1), .int k])) ++ [.lst (xs.map .int), .lst (ys.map .int)]
  let nE : Now := ⟨n.Hb, n.H, n.al ++ [a0, b1], []⟩
  have gE : ∀ {i : Nat} {z : Addr}, (n.al ++ [a0, b1])[i]? = some z → (i < μ.length ∧ n.al[i]? = some z) ∨ (i = μ.length ∧ z = a0) ∨ (i = μ.length + 1 ∧ z = b1) := fun h => by
    have := get_app2_lt h; rw [lenL] at this; exact this
  have lE : (μ.set l (.lst [.ref μ.length, .ref (μ.length + 1), .int k])).length = μ.length := List.length_set
  have srE : SR0 K nE μE := by
    refine ⟨sr.same, by show (n.al ++ [a0, b1]).length = _; simp [μE, lenL], ?_, fun i z c' h1 h2 => ?_, fun z hz => ?_, fun i j x y h1 h2 => ?_, fun b hb => by cases hb⟩
    · show (n.al ++ [a0, b1]).Nodup
      rw [List.nodup_append]
      refine ⟨sr.nd, by simp [Ne.symm f3], fun z hz u hu e => ?_⟩
      simp at hu
      rcases hu with rfl | rfl
      · exact p0.2.1 (e ▸ hz)
      · exact p1.2.1 (e ▸ hz)
    · rcases gE h1 with ⟨hi, h1⟩ | ⟨rfl, rfl⟩ | ⟨rfl, rfl⟩
      · have h2' : (μ.set l (.lst [.ref μ.length, .ref (μ.length + 1), .int k]))[i]? = some c' := by
          rw [← h2]; exact (List.getElem?_append_left (by rw [lE]; exact hi)).symm
        by_cases e : i = l
        · subst e
          rw [ha] at h1; cases h1
          rw [List.getElem?_set_self hi] at h2'; cases h2'
          refine ⟨hba, _, hbb, .cons (.ref ?_) (.cons (.ref ?_) (.cons (.int _) .nil))⟩
          · show (n.al ++ [a0, b1])[μ.length]? = _
            rw [← lenL]; exact get_app2.1
          · show (n.al ++ [a0, b1])[μ.length + 1]? = _
            rw [← lenL]; exact get_app2.2
        · rw [List.getElem?_set_ne (Ne.symm e)] at h2'
          exact (sr.cell i z c' h1 h2').sub (n' := nE) (noc i c' h2' e) rfl (fun x => x) (Same.refl _) hpre
      · have h2' : μE[μ.length]? = some (.lst (xs.map .int)) := by
          have := (get_app2 (l := μ.set l (.lst [.ref μ.length, .ref (μ.length + 1), .int k])) (x := Cell.lst (xs.map .int)) (y := Cell.lst (ys.map .int))).1
          rwa [lE] at this
        rw [h2'] at h2; cases h2
        exact ⟨p0.1, _, e2, reps_ints xs⟩
      · have h2' : μE[μ.length + 1]? = some (.lst (ys.map .int)) := by
          have := (get_app2 (l := μ.set l (.lst [.ref μ.length, .ref (μ.length + 1), .int k])) (x := Cell.lst (xs.map .int)) (y := Cell.lst (ys.map .int))).2
          rwa [lE] at this
        rw [h2'] at h2; cases h2
        exact ⟨p1.1, _, f5, reps_ints ys⟩
    · rcases List.mem_append.mp hz with hz | hz
      · exact sr.alh z hz
      · simp at hz
        rcases hz with rfl | rfl
        · exact p0.2.2
        · exact p1.2.2
    · exfalso
      rcases get_app2_lt h1 with ⟨hi, h1⟩ | ⟨_, z⟩ | ⟨_, z⟩
      · by_cases e : i = l
        · subst e
          rw [List.getElem?_set_self (by rw [lE] at hi; exact hi)] at h1; cases h1
        · rw [List.getElem?_set_ne (Ne.symm e)] at h1
          exact noc i _ h1 e x rfl
      · cases z
      · cases z
  have stE : StA μE l μ.length (μ.length + 1) k xs ys := by
    have hl' : l < μ.length := (List.getElem?_eq_some_iff.mp hl).1
    refine ⟨?_, ?_, ?_, by omega, by omega, by omega⟩
    · show (_ ++ _)[l]? = _
      rw [List.getElem?_append_left (by rw [lE]; exact hl'), List.getElem?_set_self hl']
    · have := (get_app2 (l := μ.set l (.lst [.ref μ.length, .ref (μ.length + 1), .int k])) (x := Cell.lst (xs.map .int)) (y := Cell.lst (ys.map .int))).1
      rwa [lE] at this
    · have := (get_app2 (l := μ.set l (.lst [.ref μ.length, .ref (μ.length + 1), .int k])) (x := Cell.lst (xs.map .int)) (y := Cell.lst (ys.map .int))).2
      rwa [lE] at this
  have lenE : μE.length = μ.length + 2 := by simp [μE]
  refine ⟨nE, _, μE, fun d μ' => ∃ i l0' xs', d = .int i ∧ 0 ≤ i ∧ i < m ∧ StA μ' l l0' (μ.length + 1) (k + 1) xs' ys ∧ xs'.length ≤ xs.length ∧ (∀ x ∈ xs', 0 ≤ x) ∧ FrA μE l μ.length μ' l0', fun _ _ => False, rfl, srE, rp.mono (Same.refl _) hpre,
    ⟨l, μ.length, μ.length + 1, k, xs, ys, m, rfl, stE, hm, hm2, e4, by have : k + ((c + 1 : Nat) : Int) ≤ 1099511627776 := e5; omega, f4, f6, fun d μ' l0' xs' a1 a2 a3 a4 a5 a6 => ⟨d, l0', xs', rfl, a1, a2, a3, a4, a5, a6⟩⟩, ?_, ?_⟩
  · rintro n' v d μ' s' r' rv ⟨i, l0', xs', rfl, i0, i1, st, hle, hnn, ⟨g1, g2, ⟨zs, g3⟩, g4⟩⟩
    cases rv
    have hal : n.al <+: n'.al := hpre.trans s'.pre
    have l'len : n'.al.length = μ'.length := r'.len
    obtain ⟨_, us, u1, u2⟩ := r'.cell l a _ (pre_get hal ha) st.c
    obtain ⟨a0', a1', rfl, w0, w1⟩ := reps_ref u2
    have w1' : a1' = b1 := by
      have : n'.al[μ.length + 1]? = some b1 := pre_get s'.pre (by show (n.al ++ [a0, b1])[μ.length + 1]? = _; rw [← lenL]; exact get_app2.2)
      rw [w1] at this; cases this; rfl
    subst w1'
    obtain ⟨hb0, us0, v0, v1⟩ := r'.cell l0' a0' _ w0 st.c0
    obtain ⟨hb1, us1, v2, v3⟩ := r'.cell (μ.length + 1) a1' _ w1 st.c1
    have hbo : n'.Hb a0 = none := by
      obtain ⟨z, _⟩ := r'.cell μ.length a0 _ (pre_get s'.pre (by show (n.al ++ [a0, a1'])[μ.length]? = _; rw [← lenL]; exact get_app2.1)) g3
      exact z
    have nin : ∀ (j : Nat) (z : Addr), μ.length ≤ j → n'.al[j]? = some z → z ∉ n.al := fun j z hj e hz => by
      obtain ⟨i', hi', ei⟩ := List.getElem_of_mem hz
      have e1 : n.al[i']? = some z := by rw [List.getElem?_eq_getElem hi', ei]
      have := nodup_get r'.nd (pre_get hal e1) e
      omega
    have hl0 : μ.length ≤ l0' := by rcases g4 with z | z <;> omega
    have new0 : a0' ∈ n.ph ∨ n.H a0' = none := by
      rcases g4 with z | z
      · subst z
        have : n'.al[μ.length]? = some a0 := pre_get s'.pre (by show (n.al ++ [a0, a1'])[μ.length]? = _; rw [← lenL]; exact get_app2.1)
        rw [w0] at this; cases this
        exact .inl (by rw [f2]; simp)
      · rcases s'.newa a0' (List.mem_of_getElem? w0) with y | y
        · exfalso
          obtain ⟨i', hi', ei⟩ := List.getElem_of_mem y
          have hi2 : i' < (n.al ++ [a0, a1']).length := hi'
          have e1 : n'.al[i']? = some a0' := pre_get s'.pre (by rw [List.getElem?_eq_getElem hi', ei])
          have := nodup_get r'.nd e1 w0
          simp at hi2
          omega
        · exact .inr y
    have stp : Step n ⟨n'.Hb, n'.H, n.al, [a0', a1']⟩ := by
      refine ⟨s'.same, List.prefix_refl _, fun b o e => ?_, fun b h => .inl h, fun b hb => ?_, fun b o e h0 h1 h2 => s'.keep b o e h0 (fun z => ?_) (fun z => by cases z), s'.dom⟩
      · rcases s'.newb b o e with z | z | z
        · exact .inl z
        · exact .inr (.inl z)
        · rcases List.mem_append.mp z with z | z
          · exact .inr (.inr z)
          · simp at z
            rcases z with rfl | rfl
            · rw [hbo] at e; cases e
            · rw [hb1] at e; cases e
      · simp at hb
        rcases hb with rfl | rfl
        · exact new0
        · exact .inl (by rw [f2]; simp)
      · rcases List.mem_append.mp z with z | z
        · exact h1 z
        · rw [f2] at h2; exact h2 z
    refine hq ⟨n'.Hb, n'.H, n.al, [a0', a1']⟩ _ (.int i) (μ.set l (.orc (c, true))) stp ?_ (.int i) (q i i0 i1)
    refine ⟨r'.same, by rw [List.length_set]; exact lenL, sr.nd, fun j z c' h1 h2 => ?_, fun z hz => r'.alh z (hal.subset hz), fun i' j x y h1 h2 => ?_, fun b hb => ?_⟩
    · have h1 : n.al[j]? = some z := h1
      by_cases e : j = l
      · subst e
        rw [ha] at h1; cases h1
        rw [List.getElem?_set_self (by rw [← lenL]; exact hll)] at h2; cases h2
        refine ⟨?_, a0', xs', _, k + 1, u1, ?_, by omega, by omega, by show k + 1 + (c : Int) ≤ _; have : k + ((c + 1 : Nat) : Int) ≤ 1099511627776 := e5; omega, .inl ⟨rfl, a1', ys, rfl, rfl, fun z => ?_, hnn, ?_, f6, f7⟩⟩
        · obtain ⟨z, _⟩ := r'.cell j _ _ (pre_get hal ha) st.c; exact z
        · have := Reps.ints xs' v1; subst this; exact v0
        · subst z; exact st.n01 (nodup_get r'.nd w0 w1)
        · have := Reps.ints ys v3; subst this; exact v2
      · rw [List.getElem?_set_ne (Ne.symm e)] at h2
        have hj : j < μ.length := (List.getElem?_eq_some_iff.mp h2).1
        have h2' : μ'[j]? = some c' := by
          rw [g2 j (by omega) e (by omega)]
          show (_ ++ _)[j]? = _
          rw [List.getElem?_append_left (by rw [lE]; exact hj), List.getElem?_set_ne (Ne.symm e)]; exact h2
        exact (sr.cell j z c' h1 h2).back (r'.cell j z c' (pre_get hal h1) h2') (noc j c' h2 e) hal
    · have qq : ∀ (i : Nat) x, (μ.set l (.orc (c, true)))[i]? = some (.orc x) → i = l := fun i x e => by
        by_cases e' : i = l
        · exact e'
        · rw [List.getElem?_set_ne (Ne.symm e')] at e
          exact absurd rfl (noc i _ e e' x)
      rw [qq i' x h1, qq j y h2]
    · simp at hb
      rcases hb with rfl | rfl
      · exact ⟨hb0, nin l0' _ hl0 w0, by show n'.H _ ≠ none; rw [v0]; simp⟩
      · exact ⟨hb1, nin _ _ (by omega) w1, by show n'.H _ ≠ none; rw [v2]; simp⟩
  · exact fun n' cls dd x μ' s' r' ex q' => q'.elim
end DV
namespace DV
open PySem PySem.Spec PyProof.Rows L2
def t_start : DTS := dRet (dCall gLstM (dCons (dComp false [1] (dIter (dVar 0)) (cName 1) (dTest (dBin (gI fun i j => .bl (decide (j ≤ i))) (dCall gAbs (dCons (dVar 1) dNil)) (dBin gPow (dC (.int 10)) (dC (.int 18))))) (dCall gAbs (dCons (dVar 1) dNil))) (dCons (dBin gAddM (dCall (gList true) (dCons (dVar 0) dNil)) (dCall gLst (dCons (dC (.int 5)) dNil))) (dCons (dC (.int 0)) dNil))))
def S_startE : DSp := fun ds μ Q _ => ∃ ns : List Int, ds = [.scr ns] ∧ ns.length ≤ 63 ∧ ∀ xs ys : List Int, xs.length ≤ 100 → (∀ x ∈ xs, 0 ≤ x) → ys ≠ [] → ys.length ≤ 100 →
  Q (.ref (μ.length + 2)) (μ ++ [.lst (xs.map .int), .lst (ys.map .int), .lst [.ref μ.length, .ref (μ.length + 1), .int 0]])
theorem compStart {Γ : Gam} {μ : Mu} {Q : List D → Mu → Prop} : ∀ (ns : List Int) (acc : List Int), acc.length + ns.length ≤ 100 → (∀ x ∈ acc, 0 ≤ x) → (∀ xs : List Int, xs.length ≤ 100 → (∀ x ∈ xs, 0 ≤ x) → Q (xs.map .int) μ) → 1 < Γ.length →
    dCompL none (cName 1) (dTest (dBin (gI fun i j => .bl (decide (j ≤ i))) (dCall gAbs (dCons (dVar 1) dNil)) (dBin gPow (dC (.int 10)) (dC (.int 18))))) (dCall gAbs (dCons (dVar 1) dNil)) Γ (ns.map .int) (acc.map .int) μ Q
  | [], acc, h1, h2, q, hg => ⟨trivial, q acc (by simpa using h1) h2⟩
  | n :: ns, acc, h1, h2, q, hg => by
    rw [List.length_cons] at h1
    have g1 : (Γ.set 1 (some (D.int n)))[1]? = some (some (.int n)) := List.getElem?_set_self hg
    refine ⟨trivial, ?_⟩
    simp only [cName, dTest, dBin, dCall, dCons, dNil, dVar, g1, gAbs, dC, gPow, gI]
    refine ⟨by decide, ?_⟩
    cases decide ((10 : Int) ^ (18 : Int).toNat ≤ if n < 0 then -n else n) with
    | false => exact compStart ns acc (by omega) h2 q hg
    | true =>
      refine ⟨by rw [List.length_map, sizeLine_eq]; omega, ?_⟩
      have e : acc.map D.int ++ [D.int (if n < 0 then -n else n)] = (acc ++ [if n < 0 then -n else n]).map D.int := by simp
      rw [e]
      refine compStart ns _ (by simp; omega) (fun x hx => ?_) q hg
      rcases List.mem_append.mp hx with hx | hx
      · exact h2 x hx
      · rw [List.mem_singleton.mp hx]; split <;> omega
theorem rd_startE : ∀ ds μ Q E, S_startE ds μ Q E → t_start (dFn μ Q E) (start0 ["_law_script", "_law_cell"] ds) μ := by
  rintro _ μ Q E ⟨ns, rfl, hn, q⟩
  simp only [t_start, dRet, dCall, dCons, dComp, dIter, dVar, start0, List.map_cons, List.map_nil, List.length_cons, List.length_nil, List.replicate, List.cons_append, List.nil_append, List.getElem?_cons_zero]
  refine compStart ns [] (by simp; omega) (by simp) (fun xs hx hx0 => ?_) (by simp [wipeG])
  simp only [dFin, dBin, dCall, gList, dCons, dNil, dVar, List.getElem?_cons_zero, lk, dC, gLst, gAddM, gLstM, dFin]
  refine ⟨by decide, ?_, ?_, ?_⟩
  · rw [List.length_map, sizeLine_eq]; simp; omega
  · show 3 ≤ sizeLine
    rw [sizeLine_eq]; decide
  · refine FnEnd.here ?_
    have := q xs (ns ++ [5]) hx hx0 (by simp) (by simp; omega)
    simpa using this
/-- the law's state: an oracle of 2 ^ 40 draws -/
def S_start : DSp := fun ds μ Q _ => ∃ ns : List Int, ds = [.scr ns] ∧ ns.length ≤ 63 ∧ (∀ (i : Nat) k, μ[i]? ≠ some (.orc k)) ∧ Q (.ref μ.length) (μ ++ [.orc (1099511627776, true)])
theorem start_orc {K : PySem.W.Frag} (vs : List V) (H : Hp) (Q : VK) (E : XK) (h : spOf K S_start vs H Q E) : spOf K S_startE vs H Q E := by
  obtain ⟨n, ds, μ, Qd, Ed, hH, sr, rp, ⟨ns, rfl, hn, hno, q⟩, hq, hx⟩ := h
  subst hH
  refine ⟨n, _, μ, fun d μ' => ∃ xs ys : List Int, d = .ref (μ.length + 2) ∧ μ' = μ ++ [.lst (xs.map .int), .lst (ys.map .int), .lst [.ref μ.length, .ref (μ.length + 1), .int 0]] ∧ xs.length ≤ 100 ∧ (∀ x ∈ xs, 0 ≤ x) ∧ ys ≠ [] ∧ ys.length ≤ 100, fun _ _ => False, rfl, sr, rp,
    ⟨ns, rfl, hn, fun xs ys a1 a2 a3 a4 => ⟨xs, ys, rfl, rfl, a1, a2, a3, a4⟩⟩, ?_, fun _ _ _ _ _ _ _ _ z => z.elim⟩
  rintro n' v d μ' s' r' rv ⟨xs, ys, rfl, rfl, hx1, hx2, hy1, hy2⟩
  have g : ∀ j c, [Cell.lst (xs.map D.int), Cell.lst (ys.map D.int), Cell.lst [D.ref μ.length, D.ref (μ.length + 1), D.int 0]][j]? = some c → (μ ++ [Cell.lst (xs.map D.int), Cell.lst (ys.map D.int), Cell.lst [D.ref μ.length, D.ref (μ.length + 1), D.int 0]])[μ.length + j]? = some c := fun j c h => by
    rw [List.getElem?_append_right (by omega)]; simpa using h
  cases rv with
  | @ref _ a ha =>
    obtain ⟨hb, us, u1, u2⟩ := r'.cell _ a _ ha (g 2 _ rfl)
    obtain ⟨a0, a1, rfl, w0, w1⟩ := reps_ref u2
    obtain ⟨hb0, us0, v0, v1⟩ := r'.cell _ a0 _ w0 (g 0 _ rfl)
    obtain ⟨hb1, us1, v2, v3⟩ := r'.cell _ a1 _ w1 (g 1 _ rfl)
    have e0 := Reps.ints xs v1
    have e1 := Reps.ints ys v3
    subst e0; subst e1
    have lenL := sr.len
    have nin : ∀ (j : Nat) (z : Addr), μ.length ≤ j → n'.al[j]? = some z → z ∉ n.al := fun j z hj e hz => by
      obtain ⟨i', hi', ei⟩ := List.getElem_of_mem hz
      have e1 : n.al[i']? = some z := by rw [List.getElem?_eq_getElem hi', ei]
      have := nodup_get r'.nd (pre_get s'.pre e1) e
      omega
    have new : ∀ (j : Nat) (z : Addr), μ.length ≤ j → n'.al[j]? = some z → n.H z = none := fun j z hj e => by
      rcases s'.newa z (List.mem_of_getElem? e) with y | y
      · exact absurd y (nin j z hj e)
      · exact y
    have hna : a ∉ n.al := nin _ a (by omega) ha
    have gget : ∀ {i : Nat} {z : Addr}, (n.al ++ [a])[i]? = some z → (i < μ.length ∧ n.al[i]? = some z) ∨ (i = μ.length ∧ z = a) := fun {i z} h => by
      by_cases hi : i < n.al.length
      · rw [List.getElem?_append_left hi] at h; exact .inl ⟨by omega, h⟩
      · rw [List.getElem?_append_right (by omega)] at h
        have hz := (List.getElem?_eq_some_iff.mp h).1
        simp at hz
        have : i = n.al.length := by omega
        subst this
        simp at h
        exact .inr ⟨lenL, h.symm⟩
    refine hq ⟨n'.Hb, n'.H, n.al ++ [a], [a0, a1]⟩ _ (.ref μ.length) (μ ++ [.orc (1099511627776, true)]) ⟨s'.same, List.prefix_append _ _, s'.newb, fun b hb => ?_, fun b hb => ?_, fun b o e h0 h1 h2 => s'.keep b o e h0 h1 h2, s'.dom⟩ ?_ (.ref ?_) q
    · rcases List.mem_append.mp hb with z | z
      · exact .inl z
      · rw [List.mem_singleton.mp z]; exact .inr (new _ a (by omega) ha)
    · simp at hb
      rcases hb with rfl | rfl
      · exact .inr (new _ _ (Nat.le_refl _) w0)
      · exact .inr (new _ _ (by omega) w1)
    · refine ⟨r'.same, by simp [lenL], ?_, fun i z c h1 h2 => ?_, fun z hz => ?_, fun i j x y h1 h2 => ?_, fun b hb => ?_⟩
      · show (n.al ++ [a]).Nodup
        rw [List.nodup_append]
        exact ⟨sr.nd, by simp, fun b hb c hc z => by rw [List.mem_singleton.mp hc] at z; exact hna (z ▸ hb)⟩
      · rcases gget h1 with ⟨hi, h1⟩ | ⟨rfl, rfl⟩
        · have h2' : μ[i]? = some c := by rw [← h2, List.getElem?_append_left hi]
          have h2'' : (μ ++ [Cell.lst (xs.map D.int), Cell.lst (ys.map D.int), Cell.lst [D.ref μ.length, D.ref (μ.length + 1), D.int 0]])[i]? = some c := by rw [List.getElem?_append_left hi]; exact h2'
          have nc : ∀ k, c ≠ .orc k := fun k z => hno i k (z ▸ h2')
          exact ((sr.cell i z c h1 h2').back (ph := [a0, a1]) (r'.cell i z c (pre_get s'.pre h1) h2'') nc s'.pre).sub (n' := ⟨n'.Hb, n'.H, n.al ++ [a], [a0, a1]⟩) nc rfl (fun x => x) (Same.refl _) (List.prefix_append _ _)
        · rw [List.getElem?_append_right (Nat.le_refl _)] at h2
          simp at h2
          subst h2
          exact ⟨hb, a0, xs, _, 0, u1, v0, hx1, by decide, by show (0 : Int) + _ ≤ _; decide, .inl ⟨rfl, a1, ys, rfl, rfl, fun z => by subst z; have := nodup_get r'.nd w0 w1; omega, hx2, v2, hy1, hy2⟩⟩
      · rcases List.mem_append.mp hz with y | y
        · exact r'.alh z (s'.pre.subset y)
        · rw [List.mem_singleton.mp y]; exact r'.alh a (List.mem_of_getElem? ha)
      · have qq : ∀ (i : Nat) x, (μ ++ [Cell.orc (1099511627776, true)])[i]? = some (.orc x) → i = μ.length := fun i x e => by
          by_cases hi : i < μ.length
          · rw [List.getElem?_append_left hi] at e; exact absurd e (hno i x)
          · have := (List.getElem?_eq_some_iff.mp e).1
            simp at this; omega
        rw [qq i x h1, qq j y h2]
      · simp at hb
        have nz : ∀ z (j : Nat), n'.al[j]? = some z → μ.length ≤ j → j ≠ μ.length + 2 → z ∉ n.al ++ [a] := fun z j e hj hne hz => by
          rcases List.mem_append.mp hz with y | y
          · exact nin j z hj e y
          · rw [List.mem_singleton.mp y] at e
            exact hne (nodup_get r'.nd e ha)
        rcases hb with rfl | rfl
        · exact ⟨hb0, nz _ _ w0 (Nat.le_refl _) (by omega), by show n'.H _ ≠ none; rw [v0]; simp⟩
        · exact ⟨hb1, nz _ _ w1 (by omega) (by omega), by show n'.H _ ≠ none; rw [v2]; simp⟩
    · show (n.al ++ [a])[μ.length]? = _
      rw [← lenL]; simp
end DV
namespace DV
open PySem PySem.Spec PyProof.Rows L2
/-! ### texts -/
def asc (z : Str) : Prop := ∀ c ∈ z.cps.toList, c < 128
theorem cps_app (a b : Str) : (a ++ b).cps.toList = a.cps.toList ++ b.cps.toList := by
  show (a.cps ++ b.cps).toList = _
  rw [Array.toList_append]
theorem len_app (a b : Str) : (a ++ b).length = a.length + b.length := by
  show (a.cps ++ b.cps).size = _
  rw [Array.size_append]; rfl
theorem len_list (a : Str) : a.length = a.cps.toList.length := by rw [Array.length_toList]; rfl
theorem asc_app {a b : Str} (ha : asc a) (hb : asc b) : asc (a ++ b) := fun c h => by
  rw [cps_app] at h
  rcases List.mem_append.mp h with h | h
  · exact ha c h
  · exact hb c h
theorem asc_ok {z : Str} (h : asc z) : PyData.strOk z = true := by
  unfold PyData.strOk
  rw [Array.all_eq_true]
  intro i hi
  have := h z.cps[i] (by simp)
  simp only [decide_eq_true_eq]
  omega
theorem join0 : ∀ ts : List Str, (Str.join "" ts).cps.toList = (ts.map fun t => t.cps.toList).flatten
  | [] => rfl
  | [x] => by simp [Str.join]
  | x :: y :: r => by
    have ih := join0 (y :: r)
    show (x ++ ("" : Str) ++ Str.join "" (y :: r)).cps.toList = _
    rw [cps_app, cps_app, ih]
    have : (("" : Str)).cps.toList = [] := rfl
    rw [this]; simp
theorem len_join {ts : List Str} (h : ∀ t ∈ ts, t.length = 1) : (Txt.join "" ts).length = ts.length := by
  rw [TL.join_eq, len_list, join0]
  induction ts with
  | nil => rfl
  | cons t ts ih =>
    simp only [List.map_cons, List.flatten_cons, List.length_append, List.length_cons]
    rw [ih fun x hx => h x (by simp [hx])]
    have := h t (by simp)
    rw [len_list] at this
    omega
theorem sum_ones {ts : List Str} (h : ∀ t ∈ ts, t.length = 1) : (ts.map (·.length)).sum = ts.length := by
  induction ts with
  | nil => rfl
  | cons t ts ih => simp only [List.map_cons, List.sum_cons, List.length_cons]; rw [ih fun x hx => h x (by simp [hx]), h t (by simp)]; omega
/-! ### a comprehension that draws nothing -/
theorem comp_pure {src : Option (Nat × List D)} {g : D → Gam → Mu → (Gam → Prop) → Prop} {tt : DTT} {te : DTE} {Γ : Gam} {μ : Mu} {Q : List D → Mu → Prop} (p : D → Bool) (f : D → D) (hG : Gd src μ) : ∀ (ds acc : List D),
    (∀ d ∈ ds, ∀ (K1 : D → Mu → Prop) (K2 : Mu → Prop), cond (p d) (K1 (f d) μ) (K2 μ) → g d Γ μ fun Γ1 => tt Γ1 μ (fun b μ2 => cond b (te Γ1 μ2 K1 fun _ _ => False) (K2 μ2)) fun _ _ => False) → acc.length + ds.length ≤ sizeLine →
    Q (acc ++ (ds.filter p).map f) μ → dCompL src g tt te Γ ds acc μ Q
  | [], acc, _, _, q => ⟨hG, by simpa using q⟩
  | d :: ds, acc, hs, hl, q => by
    rw [List.length_cons] at hl
    refine ⟨hG, hs d (by simp) _ _ ?_⟩
    cases e : p d with
    | true =>
      refine ⟨by omega, comp_pure p f hG ds _ (fun x hx => hs x (by simp [hx])) (by simp; omega) ?_⟩
      simpa [List.filter_cons, e] using q
    | false => exact comp_pure p f hG ds _ (fun x hx => hs x (by simp [hx])) (by omega) (by simpa [List.filter_cons, e] using q)
theorem draw_go {μ : Mu} {l c : Nat} {m : Int} {Q : D → Mu → Prop} {E : Exn → Mu → Prop} (h : μ[l]? = some (.orc (c, true))) (hc : 0 < c) (hm : 0 < m) (hm2 : m.natAbs.log2 < 9000) (q : ∀ d, 0 ≤ d → d < m → Q (.int d) (μ.set l (.orc (c - 1, true)))) : S_draw [.ref l, .int m] μ Q E :=
  ⟨l, c - 1, m, rfl, by rw [h]; congr 3; omega, hm, hm2, q⟩
/-! ### the law's own helpers -/
end DV
namespace DV
open PySem PySem.Spec PyProof.Rows L2
/-! ### the end of a law -/
end DV
namespace DV
open PySem PySem.Spec PyProof.Rows L2
/-! ### helpers of the laws: texts -/
theorem asc_dec {z : Str} (h : z.cps.toList.all (fun c => decide (c < 128)) = true) : asc z := fun c hc => of_decide_eq_true (List.all_eq_true.mp h c hc)
end DV
namespace DV
open PySem PySem.Spec PyProof.Rows L2
/-! ### instances of own classes -/
def putD (f : Str) (v : D) : List (Str × D) → List (Str × D)
  | [] => [(f, v)]
  | (g, x) :: r => if g = f then (g, v) :: r else (g, x) :: putD f v r
section
variable {K : PySem.W.Frag} {Hb : Hp} {al : List Addr}
/-- fields alike -/
theorem flds_look : ∀ {fs : List (Str × D)} {us : List (Str × V)} {f : Str} {d : D}, fs.map (·.1) = us.map (·.1) → Reps K Hb al (us.map (·.2)) (fs.map (·.2)) → fs.lookup f = some d → ∃ v, us.lookup f = some v ∧ Rep K Hb al v d
  | [], _, _, _, _, _, h => by simp at h
  | (g, x) :: fs, [], _, _, e, _, _ => by simp at e
  | (g, x) :: fs, (g', u) :: us, f, d, e, r, h => by
    simp only [List.map_cons, List.cons.injEq] at e
    obtain ⟨rfl, e⟩ := e
    cases r with
    | cons r1 r2 =>
      rw [List.lookup_cons] at h ⊢
      split at h
      · cases h; exact ⟨u, rfl, r1⟩
      · exact flds_look e r2 h
theorem flds_none : ∀ {fs : List (Str × D)} {us : List (Str × V)} {f : Str}, fs.map (·.1) = us.map (·.1) → fs.lookup f = none → us.lookup f = none
  | [], [], _, _, _ => rfl
  | [], _ :: _, _, e, _ => by simp at e
  | (g, x) :: fs, [], _, e, _ => by simp at e
  | (g, x) :: fs, (g', u) :: us, f, e, h => by
    simp only [List.map_cons, List.cons.injEq] at e
    obtain ⟨rfl, e⟩ := e
    rw [List.lookup_cons] at h ⊢
    split at h
    · cases h
    · exact flds_none e h
theorem flds_put {f : Str} {v : V} {d : D} (rv : Rep K Hb al v d) : ∀ {fs : List (Str × D)} {us : List (Str × V)}, fs.map (·.1) = us.map (·.1) → Reps K Hb al (us.map (·.2)) (fs.map (·.2)) →
    (putD f d fs).map (·.1) = (putF f v us).map (·.1) ∧ Reps K Hb al ((putF f v us).map (·.2)) ((putD f d fs).map (·.2))
  | [], [], _, _ => ⟨rfl, .cons rv .nil⟩
  | [], _ :: _, e, _ => by simp at e
  | (g, x) :: fs, [], e, _ => by simp at e
  | (g, x) :: fs, (g', u) :: us, e, r => by
    simp only [List.map_cons, List.cons.injEq] at e
    obtain ⟨rfl, e⟩ := e
    cases r with
    | cons r1 r2 =>
      obtain ⟨i1, i2⟩ := flds_put rv e r2
      unfold putD putF
      by_cases q : g = f
      · rw [if_pos q, if_pos q]; exact ⟨by simp [e], .cons rv r2⟩
      · rw [if_neg q, if_neg q]; exact ⟨by simp only [List.map_cons]; rw [i1], .cons r1 i2⟩
end
def dFld (C : Addr) (f : Str) (fo : DTE) : DTE := fun Γ μ Q E => fo Γ μ (fun d μ1 => match lk μ1 d with
  | .ins C' fs => C' = C ∧ (match fs.lookup f with | some v => Q v μ1 | none => False)
  | _ => False) E
def dSetF (C : Addr) (f : Str) (fo fv : DTE) : DTS := fun D Γ μ => fv Γ μ (fun v μ1 => fo Γ μ1 (fun o μ2 => match o with
  | .ref l => (match μ2[l]? with
    | some (.ins C' fs) => C' = C ∧ fs.length < 1000 ∧ D.nx Γ (μ2.set l (.ins C (putD f v fs)))
    | _ => False)
  | _ => False) (fun x μ1 => D.ex x Γ μ1)) (fun x μ1 => D.ex x Γ μ1)
section
variable {X : Cx} {W : WX} {o e value : Expr} {es : List Expr} {f m x : Str} {p pos pos' apos : Pos} {fo fv fi : DTE} {fr : DTA} {C g pr : Addr} {k : Nat} {fd : FuncData} {ps : List Str} {S : DSp}
theorem de_fld (c : Cls X.K C) (n : NoAttr X.K C f) (he : DE X W e fo) (hb : attributeBase e f X.env (eval e X.env) = eval e X.env := by rfl) : DE X W (.Attribute e f pos) (dFld C f fo) := PE.imp (pe_fld he hb) fun σ H Q ⟨n, Γ, μ, Qd, Ed, hH, sr, gr, h, hq, hx⟩ => by
  subst hH
  refine lift_go sr gr h (fun n1 x dx μ1 s1 r1 p1 q1 => ?_) hx
  try dsimp only at q1
  split at q1
  · rename_i C' fs e
    obtain ⟨rfl, q1⟩ := q1
    obtain ⟨a, dx, us, rfl, h1, h2, h3⟩ := see_ins r1 p1 e
    split at q1
    · rename_i d e2
      obtain ⟨v, h4, h5⟩ := flds_look h2 h3 e2
      exact ⟨a, _, dx, us, v, rfl, h1, c, by assumption, h4, hq n1 v d μ1 s1 r1 h5 q1⟩
    · exact q1.elim
  · exact q1.elim
theorem ds_fld (c : Cls X.K C) (n : NoAttr X.K C f) (ho : DE X W o fo) (hv : DE X W value fv) (hs : swapsWith value (some (.Attribute o f pos')) pos.line X.env = pure false := by rfl) : DS X W (.Assign [.Attribute o f pos'] value pos) (dSetF C f fo fv) :=
  PS.imp (ps_fld ho hv hs) fun Dn σ H ⟨A, n, Γ, μ, Dd, hH, sa, sr, gr, h, l⟩ => by
  subst hH
  have hx := l.x sa gr
  refine lift_go sr gr h (fun n1 v dv μ1 s1 r1 p1 q1 => lift_go r1 (gr.step s1) q1 (fun n2 x dx μ2 s2 r2 p2 q2 => ?_) (hx.step s1)) hx
  cases p2 with
  | @ref i a hl =>
    dsimp only at q2
    split at q2
    · rename_i C' fs e
      obtain ⟨rfl, hlen, q2⟩ := q2
      obtain ⟨hb, dx, us, h1, h2, h3⟩ := r2.cell _ _ _ hl e
      have hl2 : fs.length = us.length := by simpa using congrArg List.length h2
      obtain ⟨z1, z2⟩ := flds_put (f := f) (s2.rep p1) h2 h3
      refine ⟨a, _, dx, us, rfl, h1, c, by assumption, by omega, ?_⟩
      exact l.nx (n2.more a (.ins _ dx (putF f v us))) Γ σ _ (((sa.trans s1).trans s2).trans (Step.write hl)) (r2.write hl hb (c := .ins _ (putD f dv fs)) ⟨hb, dx, _, upd_same, z1, z2⟩ (fun k z => by cases z)) (((gr.step s1).step s2).step (Step.write hl)) q2
    · exact q2.elim
  | _ => exact q2.elim
/-! ### C(..): a new object, fixed behind its __init__ -/
def dMake (C : Addr) (S : DSp) (fr : DTA) : DTE := fun Γ μ Q E => fr Γ μ (fun vs μ1 => S (.ref μ1.length :: vs) (μ1 ++ [.ins C []])
  (fun r μ2 => r = .non ∧ ∃ fs μ3, μ2 = μ3 ++ [.ins C fs] ∧ Upd μ1 μ3 ∧ D.puF fs = true ∧ Q (.ins C fs) μ3)
  (fun x μ2 => ∃ c μ3, μ2 = μ3 ++ [c] ∧ Upd μ1 μ3 ∧ D.puF x.fs = true ∧ E x μ3)) E
/-- C(..) whose __init__ leaves further cells behind: all become data -/
def dMakeM (C : Addr) (S : DSp) (fr : DTA) : DTE := fun Γ μ Q E => fr Γ μ (fun vs μ1 => S (.ref μ1.length :: vs) (μ1 ++ [.ins C []])
  (fun r μ2 => r = .non ∧ ∃ e loc μ3, μ2 = μ3 ++ loc ∧ Upd μ1 μ3 ∧ Fz μ3.length (μ3 ++ loc) (.ref μ1.length) e ∧ Q e μ3)
  (fun x μ2 => ∃ loc μ3, μ2 = μ3 ++ loc ∧ Upd μ1 μ3 ∧ D.puF x.fs = true ∧ E x μ3)) E
theorem make_goM {K : PySem.W.Frag} {n1 : Now} {μ1 : Mu} {vs : List V} {ds : List D} {Qd : D → Mu → Prop} {Ed : Exn → Mu → Prop} {Q : VK} {E : XK} (r1 : SR0 K n1 μ1) (p1 : Reps K n1.Hb n1.al vs ds)
    (q1 : S (.ref μ1.length :: ds) (μ1 ++ [.ins C []]) (fun r μ2 => r = .non ∧ ∃ e loc μ3, μ2 = μ3 ++ loc ∧ Upd μ1 μ3 ∧ Fz μ3.length (μ3 ++ loc) (.ref μ1.length) e ∧ Qd e μ3) (fun x μ2 => ∃ loc μ3, μ2 = μ3 ++ loc ∧ Upd μ1 μ3 ∧ D.puF x.fs = true ∧ Ed x μ3))
    (hq : LV K n1 Qd Q) (hx : ∀ n' cls dd x μ', Step n1 n' → SR0 K n' μ' → ExR K n1 n' cls dd x → Ed x μ' → E cls dd n'.H) (x dx : Addr) (nx : n1.H x = none) (ndx : n1.H dx = none) (ne : dx ≠ x) :
    spOf K S (.ref x :: vs) (upd (upd n1.H dx (.own x)) x (.ins C dx [])) (fun v H2 => v = .non ∧ Q (.ref x) H2) E := by
  have rx : SR0 K (n1.more dx (.own x)) μ1 := r1.more ndx
  have nx' : (n1.more dx (.own x)).H x = none := by show upd n1.H dx _ x = none; rw [upd_ne (Ne.symm ne)]; exact nx
  have ra : SR0 K ((n1.more dx (.own x)).cell x (.ins C dx [])) (μ1 ++ [.ins C []]) := rx.cellN nx' (c := .ins C []) ⟨rx.hb nx', dx, [], upd_same, rfl, .nil⟩ (fun k z => by cases z)
  have st : Step n1 ((n1.more dx (.own x)).cell x (.ins C dx [])) := (Step.more ndx).trans (Step.cell nx')
  have hal : ((n1.more dx (.own x)).cell x (.ins C dx [])).al = n1.al ++ [x] := rfl
  refine ⟨(n1.more dx (.own x)).cell x (.ins C dx []), _, _, _, _, rfl, ra, .cons (.ref ?_) (st.reps p1), q1, ?_, ?_⟩
  · rw [hal, ← r1.len]; simp
  · rintro n2 v d μ2 s2 r2 rv ⟨rfl, e, loc, μ3, rfl, u, hf, q⟩
    cases rv
    refine ⟨rfl, ?_⟩
    have hx2 : n2.al[μ1.length]? = some x := pre_get s2.pre (by rw [hal, ← r1.len]; simp)
    obtain ⟨z1, z2, z3⟩ := melted r1 (st.trans s2) r2 u
    exact hq ⟨meltH n2 μ3.length, n2.H, n1.al, n2.ph⟩ _ e μ3 z2 z1 (melt_rep r2 z3 hf (.ref hx2)) q
  · rintro n2 cls dd y μ2 s2 r2 ex ⟨loc, μ3, rfl, u, hp, q⟩
    obtain ⟨t1, t2⟩ := trunc r1 (st.trans s2) r2 u
    exact hx ⟨n2.Hb, n2.H, n1.al, n2.ph⟩ cls dd y μ3 t2 t1 (exr_trunc (ex.anchor st) hp fun a h => (st.trans s2).pre.subset h) q
theorem run_makeM {pins : List (Addr × Obj)} {σ : L2.St} {s : Shared} {n1 : Now} {μ1 : Mu} {ds : List D} {Qd : D → Mu → Prop} {Ed : Exn → Mu → Prop} {Q : VK} {us ws : List Value} {kw : List (Str × Value)} {vs : List V} {fI : Addr} (M : Mk X.K C fI) (F : FnOk X.prog X.w X.K X.mg X.base (L2.CX X.prog X.w) k fI fd ps (spOf X.K S)) (hr : Room (k + 1) X.A)
    (hb : ∀ (s' : Shared) (a : Addr), X.K.In s'.heap → BindsTo s' fd ⟨.ref a :: us, kw⟩ (ps.zip (.ref a :: ws))) (tk : Takes X W)
    (I : Inv X pins σ n1.H s) (r : Vals vs ws) (r1 : SR0 X.K n1 μ1) (p1 : Reps X.K n1.Hb n1.al vs ds)
    (q1 : S (.ref μ1.length :: ds) (μ1 ++ [.ins C []]) (fun r μ2 => r = .non ∧ ∃ e loc μ3, μ2 = μ3 ++ loc ∧ Upd μ1 μ3 ∧ Fz μ3.length (μ3 ++ loc) (.ref μ1.length) e ∧ Qd e μ3) (fun x μ2 => ∃ loc μ3, μ2 = μ3 ++ loc ∧ Upd μ1 μ3 ∧ D.puF x.fs = true ∧ Ed x μ3))
    (hq : LV X.K n1 Qd Q) (hx : ∀ n' cls dd x μ', Step n1 n' → SR0 X.K n' μ' → ExR X.K n1 n' cls dd x → Ed x μ' → W cls dd σ n'.H) : wpAny (model X.prog X.w) X.A (call (.ref C) us kw) (EP X pins σ Q) X.xe s := by
  have I2 := Inv.made (C := C) I
  have nx : n1.H (s.heap.objs.size + 1) = none := I.hok.fresh (Nat.le_succ _)
  have nd : n1.H s.heap.objs.size = none := I.hok.fresh (Nat.le_refl _)
  have sp := make_goM (C := C) (S := S) (E := WE W σ) r1 p1 q1 hq hx _ _ nx nd (Nat.ne_of_lt (Nat.lt_succ_self _))
  have rr : Vals (V.ref (s.heap.objs.size + 1) :: vs) (Value.ref (s.heap.objs.size + 1) :: ws) := .cons rfl r
  have go := F.run (X.A.under (.builtin "type.__call__" ⟨.ref C :: us, kw⟩)) X.stack _ _ ⟨Value.ref (s.heap.objs.size + 1) :: us, kw⟩ _ _ _ _ (hr.make C us kw) (I2.env0.make C us kw) (hb _ _ I2.kIn) rr sp
  refine wpAny_call (make_map (f := fI) I.kIn M.makes M.init (beq_iff_eq.mp M.fn) (codeAny_mono go ?_))
  intro res s' hq'
  match res, hq' with
  | .error e, hq' => exact passAt tk σ pins _ _ e s' I2 hq'
  | .ok (.ret u), hq' =>
    obtain ⟨v, H', I3, rv, ev, q3⟩ := I2.after hq'
    subst ev
    exact ⟨rv, ⟨V.ref (s.heap.objs.size + 1), H', I3, rfl, q3⟩⟩
theorem de_makeM {fI : Addr} (M : Mk X.K C fI) (F : FnOk X.prog X.w X.K X.mg X.base (L2.CX X.prog X.w) k fI fd ps (spOf X.K S)) (hr : Room (k + 1) X.A) (hg : Gl X x) (hm : X.mg x = some (.ref C)) (hb : Binds X.K fd ps []) (tk : Takes X W) (ha : DA X W (e :: es) fr) (hdb : (x == ("__debug__" : Str)) = false := by decide)
    (he : starEach (e :: es) X.env = (false, eval e X.env) :: starEach es X.env := by rfl) (hpl : (backTo pos (starEach es X.env)).any (·.1) = false := by rfl) : DE X W (.Call (.Name x p) (e :: es) [] pos) (dMakeM C S fr) := by
  refine ⟨fun pins s σ H Q I ⟨n, Γ, μ, Qd, Ed, hH, sr, gr, h, hq, hx⟩ => ?_⟩
  subst hH
  refine wpAny_Call_Name_kw (ld_glob I hg hm ?_ hdb)
  let R : List V → Hp → Prop := fun vs H1 => ∃ n1 ds μ1, n1.H = H1 ∧ SR0 X.K n1 μ1 ∧ Reps X.K n1.Hb n1.al vs ds ∧ LV X.K n1 Qd Q ∧ (∀ n' cls dd x μ', Step n1 n' → SR0 X.K n' μ' → ExR X.K n1 n' cls dd x → Ed x μ' → W cls dd σ n'.H) ∧
    S (.ref μ1.length :: ds) (μ1 ++ [.ins C []]) (fun r μ2 => r = .non ∧ ∃ e loc μ3, μ2 = μ3 ++ loc ∧ Upd μ1 μ3 ∧ Fz μ3.length (μ3 ++ loc) (.ref μ1.length) e ∧ Qd e μ3) (fun x μ2 => ∃ loc μ3, μ2 = μ3 ++ loc ∧ Upd μ1 μ3 ∧ D.puF x.fs = true ∧ Ed x μ3)
  refine PySem.W.callWith_K (h₀ := X.base) I.ok.mod.kin M.kp (thn (ha.run pos pins s σ n.H R I (liftA_go sr gr h (fun n1 vs ds μ1 s1 r1 p1 q1 => ⟨n1, ds, μ1, rfl, r1, p1, LV.step hq s1, hx.step s1, q1⟩) hx)) ?_) he hpl
  rintro us s1 ⟨vs, H1, I1, r, n1, ds, μ1, rfl, r1, p1, hq1, hx1, q1⟩
  refine ⟨I1.kIn, ?_⟩
  have hl : us.length + 1 = ps.length := by
    have nx : n1.H (s1.heap.objs.size + 1) = none := I1.hok.fresh (Nat.le_succ _)
    have nd : n1.H s1.heap.objs.size = none := I1.hok.fresh (Nat.le_refl _)
    have := F.len _ _ _ _ (make_goM (C := C) (S := S) (E := WE W σ) r1 p1 q1 hq1 hx1 _ _ nx nd (Nat.ne_of_lt (Nat.lt_succ_self _)))
    rw [← this, List.length_cons, r.length]
  refine run_makeM (ws := us) M F hr (fun s' a hk => ?_) tk I1 r r1 p1 q1 hq1 hx1
  have := hb s' (.ref a :: us) hk (by simpa using hl)
  rwa [List.append_nil] at this
/-! ### methods, properties, o[i] -/
def isIns (μ : Mu) (C : Addr) (m : Str) (d : D) : Prop := match lk μ d with
  | .ins C' fs => C' = C ∧ fs.lookup m = none
  | _ => False
theorem isIns_at {K : PySem.W.Frag} {n : Now} {μ : Mu} {v : V} {d : D} (s : SR0 K n μ) (r : Rep K n.Hb n.al v d) (h : isIns μ C m d) : ∃ a dx us, v = .ref a ∧ n.H a = some (.ins C dx us) ∧ us.lookup m = none := by
  unfold isIns at h
  split at h
  · rename_i C' fs e
    obtain ⟨rfl, h⟩ := h
    obtain ⟨a, dx, us, rfl, h1, h2, _⟩ := see_ins s r e
    exact ⟨a, dx, us, rfl, h1, flds_none h2 h⟩
  · exact h.elim
def dMethod (C : Addr) (m : Str) (S : DSp) (fo : DTE) (fr : DTA) : DTE := fun Γ μ Q E => fo Γ μ (fun d μ1 => isIns μ1 C m d ∧ fr Γ μ1 (fun vs μ2 => S (d :: vs) μ2 Q E) E) E
theorem de_meth {pl : Sem Bool} (c : Cls X.K C) (hm : Meth X.K C m g) (F : FnOk X.prog X.w X.K X.mg X.base (L2.CX X.prog X.w) k g fd ps (spOf X.K S)) (hr : Room k X.A) (hb : Binds X.K fd ps []) (tk : Takes X W) (he : DE X W o fo) (ha : DA X W (e :: es) fr)
    (hst : starEach (e :: es) X.env = (false, eval e X.env) :: starEach es X.env := by rfl) (hpl : (backTo pos (starEach es X.env)).any (·.1) = false := by rfl)
    (ht : eval (.Call (.Attribute o m apos) (e :: es) [] pos) X.env = (do let ov ← eval o X.env; standAt apos.atName; let (f, first) ← holding [ov] (getMethod ov m pl); callWith pos f first (backTo pos (starEach (e :: es) X.env)) (backToKw pos (keywordEach [] X.env))) := by rfl) :
    DE X W (.Call (.Attribute o m apos) (e :: es) [] pos) (dMethod C m S fo fr) := by
  refine ⟨fun pins s σ H Q I ⟨n, Γ, μ, Qd, Ed, hH, sr, gr, h, hq, hx⟩ => ?_⟩
  subst hH
  let R : V → Hp → Prop := fun v H1 => ∃ n1 d μ1, n1.H = H1 ∧ SR0 X.K n1 μ1 ∧ Rep X.K n1.Hb n1.al v d ∧ Step n n1 ∧ isIns μ1 C m d ∧ fr Γ μ1 (fun vs μ2 => S (d :: vs) μ2 Qd Ed) Ed
  refine PySem.W.methodCall_KW (pl := pl) (thn (he.run pins s σ n.H R I (lift_go sr gr h (fun n1 v d μ1 s1 r1 p1 q1 => ⟨n1, d, μ1, rfl, r1, p1, s1, q1⟩) hx)) ?_) ht
  rintro u s1 ⟨v, H1, I1, rv, n1, d, μ1, rfl, r1, p1, s1', hi, q1⟩
  obtain ⟨a, dx, us, rfl, h1, h2⟩ := isIns_at r1 p1 hi
  cases rv
  refine getmeth_ok I1 h1 c hm h2 ?_
  refine PySem.W.callWith_K (first := [.ref a]) (h₀ := X.base) I.ok.mod.kin hm.kp (thn (ha.run pos pins s1 σ n1.H (fun vs H2 => spOf X.K S (.ref a :: vs) H2 Q (WE W σ)) I1 (liftA_go r1 (gr.step s1') q1 (fun n2 vs ds μ2 s2 r2 p2 q2 => ?_) (hx.step s1'))) ?_) hst hpl
  · exact ⟨n2, d :: ds, μ2, Qd, Ed, rfl, r2, .cons (s2.rep p1) p2, q2, LV.step hq (s1'.trans s2), (hx.step s1').step s2⟩
  · rintro ws s2 ⟨vs, H2, I2, r, q2⟩
    refine ⟨I2.kIn, ?_⟩
    have rr : Vals (V.ref a :: vs) (Value.ref a :: ws) := .cons rfl r
    have hl : (Value.ref a :: ws).length = ps.length := by rw [← rr.length]; exact F.len _ _ _ _ q2
    have bb := hb s2 (.ref a :: ws) I2.kIn (by rw [List.append_nil]; exact hl)
    rw [List.append_nil] at bb
    exact run_deep (ws := .ref a :: ws) F hr tk I2 bb rr q2
theorem de_meth0 {pl : Sem Bool} (c : Cls X.K C) (hm : Meth X.K C m g) (F : FnOk X.prog X.w X.K X.mg X.base (L2.CX X.prog X.w) k g fd ps (spOf X.K S)) (hr : Room k X.A) (hb : Binds X.K fd ps []) (tk : Takes X W) (he : DE X W o fo)
    (ht : eval (.Call (.Attribute o m apos) [] [] pos) X.env = (do let ov ← eval o X.env; standAt apos.atName; let (f, first) ← holding [ov] (getMethod ov m pl); callWith pos f first (backTo pos (starEach [] X.env)) (backToKw pos (keywordEach [] X.env))) := by rfl) :
    DE X W (.Call (.Attribute o m apos) [] [] pos) (dMethod C m S fo dNil) := by
  refine ⟨fun pins s σ H Q I ⟨n, Γ, μ, Qd, Ed, hH, sr, gr, h, hq, hx⟩ => ?_⟩
  subst hH
  let R : V → Hp → Prop := fun v H1 => ∃ n1 d μ1, n1.H = H1 ∧ SR0 X.K n1 μ1 ∧ Rep X.K n1.Hb n1.al v d ∧ Step n n1 ∧ isIns μ1 C m d ∧ S [d] μ1 Qd Ed
  refine PySem.W.methodCall_KW (pl := pl) (thn (he.run pins s σ n.H R I (lift_go sr gr h (fun n1 v d μ1 s1 r1 p1 q1 => ⟨n1, d, μ1, rfl, r1, p1, s1, q1⟩) hx)) ?_) ht
  rintro u s1 ⟨v, H1, I1, rv, n1, d, μ1, rfl, r1, p1, s1', hi, q1⟩
  obtain ⟨a, dx, us, rfl, h1, h2⟩ := isIns_at r1 p1 hi
  cases rv
  refine getmeth_ok I1 h1 c hm h2 ?_
  have sp : spOf X.K S [.ref a] n1.H Q (WE W σ) := ⟨n1, [d], μ1, Qd, Ed, rfl, r1, .cons p1 .nil, q1, LV.step hq s1', hx.step s1'⟩
  have hl : [Value.ref a].length = ps.length := F.len _ _ _ _ sp
  have bb := hb s1 [.ref a] I1.kIn (by rw [List.append_nil]; exact hl)
  rw [List.append_nil] at bb
  exact PySem.W.callWith_K0 (first := [.ref a]) I1.kIn hm.kp (run_deep (us := [.ref a]) (ws := [.ref a]) (vs := [V.ref a]) F hr tk I1 bb (.cons rfl .nil) sp)
def insOf (μ : Mu) (C : Addr) (d : D) : Prop := match lk μ d with
  | .ins C' _ => C' = C
  | _ => False
theorem insOf_at {K : PySem.W.Frag} {n : Now} {μ : Mu} {v : V} {d : D} (s : SR0 K n μ) (r : Rep K n.Hb n.al v d) (h : insOf μ C d) : ∃ a dx us, v = .ref a ∧ n.H a = some (.ins C dx us) := by
  unfold insOf at h
  split at h
  · rename_i C' fs e
    subst h
    obtain ⟨a, dx, us, rfl, h1, _⟩ := see_ins s r e
    exact ⟨a, dx, us, rfl, h1⟩
  · exact h.elim
/-- a property that lets nothing out -/
def dProp (C : Addr) (S : DSp) (fo : DTE) : DTE := fun Γ μ Q E => fo Γ μ (fun d μ1 => insOf μ1 C d ∧ S [d] μ1 Q fun _ _ => False) E
theorem de_prop (c : Cls X.K C) (hp : PropOf X.K C f pr g) (F : FnOk X.prog X.w X.K X.mg X.base (L2.CX X.prog X.w) k g fd ps (spOf X.K S)) (hr : Room (k + 1) X.A) (hb : Binds X.K fd ps []) (he : DE X W e fo) (hab : attributeBase e f X.env (eval e X.env) = eval e X.env := by rfl) :
    DE X W (.Attribute e f pos) (dProp C S fo) := PE.imp (pe_prop (dvs := []) (E := fun _ _ _ => False) he c hp F hr hb .nil (fun _ _ _ _ _ _ _ z => by obtain ⟨_, _, _, _, _, _, _, _, _, _, _, _, q⟩ := z; exact q) hab) fun σ H Q ⟨n, Γ, μ, Qd, Ed, hH, sr, gr, h, hq, hx⟩ => by
  subst hH
  refine lift_go sr gr h (fun n1 x dx μ1 s1 r1 p1 q1 => ?_) hx
  obtain ⟨a, dy, us, rfl, h1⟩ := insOf_at r1 p1 q1.1
  exact ⟨a, dy, us, rfl, h1, n1, [_], μ1, Qd, fun _ _ => False, rfl, r1, .cons p1 .nil, q1.2, LV.step hq s1, fun _ _ _ _ _ _ _ _ z => z.elim⟩
/-- o[i] by an own __getitem__ -/
def dOwnIx (C : Addr) (S : DSp) (fo fi : DTE) : DTE := fun Γ μ Q E => fo Γ μ (fun d μ1 => fi Γ μ1 (fun i μ2 => insOf μ2 C d ∧ S [d, i] μ2 Q E) E) E
theorem de_ownix {i : Expr} (hs : PySem.W.findIn X.K (.ref C) "__getitem__" = some (some (.ref g))) (hf : PySem.W.fnIn X.K g = true) (hfn : PySem.W.isFn X.K (.ref g) = true) (F : FnOk X.prog X.w X.K X.mg X.base (L2.CX X.prog X.w) k g fd ps (spOf X.K S)) (hr : Room (k + 1) X.A) (hb : Binds X.K fd ps []) (tk : Takes X W)
    (he : DE X W o fo) (hi : DE X W i fi) (hsl : ∀ x j, subscripted i true (.ref x) j = runValue (.builtin "lifetime.subscript" ⟨[.ref x, j], []⟩) := by intros; with_unfolding_all rfl) : DE X W (.Subscript o i pos) (dOwnIx C S fo fi) := by
  refine ⟨fun pins s σ H Q I ⟨n, Γ, μ, Qd, Ed, hH, sr, gr, h, hq, hx⟩ => ?_⟩
  subst hH
  let R : V → V → Hp → Prop := fun x y H2 => ∃ n2 d j μ2, n2.H = H2 ∧ SR0 X.K n2 μ2 ∧ Rep X.K n2.Hb n2.al x d ∧ Rep X.K n2.Hb n2.al y j ∧ Step n n2 ∧ insOf μ2 C d ∧ S [d, j] μ2 Qd Ed
  refine Subscript_ (binT he hi (R := R) I (lift_go sr gr h (fun n1 x dx μ1 s1 r1 p1 q1 => lift_go r1 (gr.step s1) q1 (fun n2 y dy μ2 s2 r2 p2 q2 => ⟨n2, dx, dy, μ2, rfl, r2, s2.rep p1, p2, s1.trans s2, q2⟩) (hx.step s1)) hx) ?_)
  rintro v u s2 x y H2 I2 rx ry ⟨n2, d, j, μ2, rfl, r2, p1, p2, st, hi2, q2⟩
  obtain ⟨a, dx, us, rfl, h1⟩ := insOf_at r2 p1 hi2
  cases rx
  obtain ⟨mA, O, _, _, _, _⟩ := ins_get I2.hok h1
  obtain ⟨od, J, _⟩ := O.look
  obtain ⟨mm, Fm⟩ := I2.fr
  refine PySem.W.sub_K (h₀ := X.base) Fm I.ok.mod.kin J hs hf hfn ?_ (hsl a u)
  have sp : spOf X.K S [.ref a, y] n2.H Q (WE W σ) := ⟨n2, [d, j], μ2, Qd, Ed, rfl, r2, .cons p1 (.cons p2 .nil), q2, LV.step hq st, hx.step st⟩
  have rr : Vals [V.ref a, y] [Value.ref a, u] := .cons rfl (.cons ry .nil)
  have hl : [Value.ref a, u].length = ps.length := F.len _ _ _ _ sp
  have bb := hb s2 [.ref a, u] I2.kIn (by rw [List.append_nil]; exact hl)
  rw [List.append_nil] at bb
  refine wpAny_call (codeAny_mono (F.run X.A.in1 X.stack s2 n2.H ⟨[.ref a, u], []⟩ _ _ Q (WE W σ) hr.in1 I2.env0.in1 bb rr sp) ?_)
  intro res s' hq'
  match res, hq' with
  | .error e, hq' => exact passAt tk σ pins _ _ e s' I2 hq'
  | .ok (.ret u), hq' => exact I2.after hq'
/-- a way that is never taken -/
def dNever : DTS := fun _ _ _ => False
end
end DV
namespace DV
open PySem PySem.Spec PyProof.Rows L2
/-! ### sorted: data by their own order, or by a key -/
def pyd (d : D) : PyData := D.py 12 d
def srtOk (ks : List D) : Prop := (∀ d ∈ ks, D.okn 12 d = true) ∧ PySem.W.AllAlike (ks.map pyd) ∧ PySem.W.Sortable (ks.map pyd)
def leBy (key : D → D) : D → D → Bool := PySem.W.dataLe false fun d => pyd (key d)
def sortBy (key : D → D) (ds : List D) : List D := ds.mergeSort (leBy key)
/-- sorted(x) -/
def gSorted (fz : Bool) : GN := fun ds μ Q => match ds with
  | [d] => (match lk μ d with
    | .lst xs => srtOk xs ∧ dFin fz (sortBy id xs) μ Q
    | _ => False)
  | _ => False
end DV
namespace DV
open PySem PySem.Spec PyProof.Rows L2
def dSortK (fz : Bool) (S : DSp) (key : D → D) (fe : DTE) : DTE := fun Γ μ Q E => fe Γ μ (fun d μ1 => match lk μ1 d with
  | .lst xs => (∀ d ∈ xs, S [d] μ1 (fun x μ' => x = key d ∧ μ' = μ1) (fun _ _ => False)) ∧ srtOk (xs.map key) ∧ dFin fz (sortBy key xs) μ1 Q
  | _ => False) E
end DV
namespace DV
open PySem PySem.Spec PyProof.Rows L2
/-! ### t[::-1] of a tuple -/
def dRevT (f : DTE) : DTE := fun Γ μ Q E => f Γ μ (fun d μ1 => match lk μ1 d with
  | .tup xs => Q (.tup xs.reverse) μ1
  | _ => False) E
section
variable {X : Cx} {W : WX} {a b e o : Expr} {k : Nat} {q1 q2 q3 pos p apos : Pos} {fa fb : DTE}
/-! ### in, deep -/
def inD (x : D) (ys : List D) : Bool := ys.any fun y => PyData.eqv (D.py 11 y) (D.py 12 x)
def gInD (neg : Bool) : G2 := fun x y μ Q => match lk μ y with
  | .lst ys => (D.okn 12 (lk μ x) = true ∧ ys.all (D.okn 11) = true) ∧ Q (.bl (if neg then !inD (lk μ x) ys else inD (lk μ x) ys)) μ
  | .tup ys => (D.okn 12 (lk μ x) = true ∧ ys.all (D.okn 11) = true) ∧ Q (.bl (if neg then !inD (lk μ x) ys else inD (lk μ x) ys)) μ
  | _ => False
/-! ### is True -/
def gIsB (neg : Bool) : G2 := fun x y μ Q => match x, y with
  | .bl a, .bl b => Q (.bl (if neg then !decide (a = b) else decide (a = b))) μ
  | _, _ => False
theorem op_gIsB {K : PySem.W.Frag} : Op2 K rIsB (gIsB false) := fun n μ x y dx dy Qd Q s rx ry q l => by
  cases rx <;> first | (exact q.elim; done) | skip
  cases ry <;> first | (exact q.elim; done) | skip
  exact ⟨_, _, rfl, rfl, l.now s (.bl _) q⟩
theorem de_isB (ha : DE X W a fa) (hb : DE X W b fb) : DE X W (.Compare a [.Is] [b] pos) (dBin (gIsB false) fa fb) := de_cmp op_isBl op_gIsB ha hb (nomark _)
/-! ### str(i) -/
def gStr : GN := fun ds μ Q => match ds with
  | [.int i] => i.natAbs.log2 < 1920 ∧ Q (.str (toString i)) μ
  | _ => False
theorem de_strC (hg : Gl X "str") (hm : X.mg "str" = none) (ha : DE X W a fa) (hs : starEach [a] X.env = (false, eval a X.env) :: starEach [] X.env := by rfl) : DE X W (.Call (.Name "str" p) [a] [] pos) (dCall gStr (dCons fa dNil)) :=
  de_callTy call_str_int (fun n μ xs ds Qd Q s r q l => by
    unfold gStr at q
    split at q
    · cases r with
      | cons r1 r2 => cases r2; cases r1; exact ⟨_, rfl, q.1, l.now s (.str _) q.2⟩
    · exact q.elim) hg hm (by decide +kernel) (da_cons ha da_nil hs) (he := hs)
/-! ### l.pop() -/
def dPop0 (fo : DTE) : DTE := fun Γ μ Q E => fo Γ μ (fun x μ1 => match x with
  | .ref l => (match μ1[l]? with
    | some (.lst xs) => (match xs[xs.length - 1]? with | some y => Q y (μ1.set l (.lst xs.dropLast)) | none => False)
    | _ => False)
  | _ => False) E
end
/-! ### dict displays -/
def keyOfD : D → Option Key
  | .int i => some (.inl i)
  | .str x => some (.inr x)
  | _ => none
def keysD : List (D × D) → Option (List (Key × D))
  | [] => some []
  | (k, v) :: r => match keyOfD k, keysD r with
    | some k, some r => some ((k, v) :: r)
    | _, _ => none
def putKD (kvs : List (Key × D)) (k : Key) (v : D) : List (Key × D) :=
  if (kvs.any fun kv => decide (kv.1 = k)) = true then kvs.map (fun kv => if kv.1 = k then (kv.1, v) else kv) else kvs ++ [(k, v)]
def mergeKD (kvs more : List (Key × D)) : List (Key × D) := more.foldl (fun acc kv => putKD acc kv.1 kv.2) kvs
def dFinD (fz : Bool) (acc : List (Key × D)) (μ : Mu) (Q : D → Mu → Prop) : Prop := match fz with
  | true => Q (.dct acc) μ
  | false => Q (.ref μ.length) (μ ++ [.dct acc])
def dPairs : List (DTE × DTE) → Gam → Mu → (List (D × D) → Mu → Prop) → (Exn → Mu → Prop) → Prop
  | [], _, μ, Q, _ => Q [] μ
  | (fk, fv) :: r, Γ, μ, Q, E => fk Γ μ (fun x μ1 => fv Γ μ1 (fun y μ2 => dPairs r Γ μ2 (fun ps μ3 => Q ((x, y) :: ps) μ3) E) E) E
def dDict (fz : Bool) (trs : List (DTE × DTE)) : DTE := fun Γ μ Q E => dPairs trs Γ μ (fun ps μ1 => match keysD ps with
  | some kvs => kvs.length ≤ 15 ∧ dFinD fz (mergeKD [] kvs) μ1 Q
  | none => False) E
/-- a dict of the layer and one of the deep layer -/
def RepK (K : PySem.W.Frag) (Hb : Hp) (al : List Addr) (us : List (Key × V)) (kvs : List (Key × D)) : Prop := kvs.map (·.1) = us.map (·.1) ∧ Reps K Hb al (us.map (·.2)) (kvs.map (·.2))
section
variable {K : PySem.W.Frag} {Hb : Hp} {al : List Addr}
theorem RepK.nil : RepK K Hb al [] [] := ⟨rfl, .nil⟩
theorem RepK.snoc {us : List (Key × V)} {kvs : List (Key × D)} {k : Key} {v : V} {d : D} (h : RepK K Hb al us kvs) (r : Rep K Hb al v d) : RepK K Hb al (us ++ [(k, v)]) (kvs ++ [(k, d)]) :=
  ⟨by simp [h.1], by simpa using h.2.append (.cons r .nil)⟩
theorem RepK.put : ∀ {us : List (Key × V)} {kvs : List (Key × D)} {k : Key} {v : V} {d : D}, RepK K Hb al us kvs → Rep K Hb al v d → RepK K Hb al (putK us k v) (putKD kvs k d) := fun {us kvs k v d} h r => by
  have e : (us.any fun kv => decide (kv.1 = k)) = (kvs.any fun kv => decide (kv.1 = k)) := by
    have e1 : (us.any fun kv => decide (kv.1 = k)) = ((us.map (·.1)).any fun q => decide (q = k)) := by rw [List.any_map]; rfl
    have e2 : (kvs.any fun kv => decide (kv.1 = k)) = ((kvs.map (·.1)).any fun q => decide (q = k)) := by rw [List.any_map]; rfl
    rw [e1, e2, h.1]
  unfold putK putKD
  rw [e]
  split
  · have aux : ∀ {us : List (Key × V)} {kvs : List (Key × D)}, kvs.map (·.1) = us.map (·.1) → Reps K Hb al (us.map (·.2)) (kvs.map (·.2)) → RepK K Hb al (us.map (fun kv => if kv.1 = k then (kv.1, v) else kv)) (kvs.map (fun kv => if kv.1 = k then (kv.1, d) else kv)) := fun {us} => by
      induction us with
      | nil => intro kvs e1 e2; cases kvs with
        | nil => exact RepK.nil
        | cons _ _ => simp at e1
      | cons a us ih =>
        intro kvs e1 e2
        cases kvs with
        | nil => simp at e1
        | cons b kvs =>
          simp only [List.map_cons, List.cons.injEq] at e1
          simp only [List.map_cons] at e2
          cases e2 with
          | cons x1 x2 =>
            obtain ⟨y1, y2⟩ := ih e1.2 x2
            refine ⟨?_, ?_⟩
            · simp only [List.map_cons]
              rw [y1]
              congr 1
              rw [← e1.1]
              split <;> simp [e1.1]
            · simp only [List.map_cons]
              refine .cons ?_ y2
              rw [← e1.1]
              split
              · exact r
              · exact x1
    exact aux h.1 h.2
  · exact h.snoc r
theorem RepK.merge : ∀ {ms : List (Key × V)} {mds : List (Key × D)} {us : List (Key × V)} {kvs : List (Key × D)}, RepK K Hb al ms mds → RepK K Hb al us kvs → RepK K Hb al (mergeK us ms) (mergeKD kvs mds) := fun {ms} => by
  induction ms with
  | nil =>
    intro mds us kvs h1 h2
    cases mds with
    | nil => exact h2
    | cons _ _ => simp [RepK] at h1
  | cons a ms ih =>
    intro mds us kvs h1 h2
    cases mds with
    | nil => simp [RepK] at h1
    | cons b mds =>
      obtain ⟨e1, e2⟩ := h1
      simp only [List.map_cons, List.cons.injEq] at e1
      simp only [List.map_cons] at e2
      cases e2 with
      | cons x1 x2 =>
        have := ih (us := putK us a.1 a.2) (kvs := putKD kvs b.1 b.2) ⟨e1.2, x2⟩ (by rw [e1.1]; exact h2.put x1)
        exact this
end
end DV
/-! Readings: comprehensions and loops by an invariant; the oracle's place in the cells. -/
namespace DV
open PySem PySem.Spec PyProof.Rows L2
theorem comp_invA {src : Option (Nat × List D)} {g : D → Gam → Mu → (Gam → Prop) → Prop} {tt : DTT} {te : DTE} {Γ : Gam} {Q : List D → Mu → Prop} (I : Nat → List D → Mu → Prop) : ∀ (ds acc : List D) (μ : Mu) (k : Nat),
    (∀ i d acc μ, ds[i]? = some d → I (k + i) acc μ → Gd src μ ∧ ∀ (K1 : D → Mu → Prop) (K2 : Mu → Prop), (∀ y μ3, I (k + i + 1) (acc ++ [y]) μ3 → K1 y μ3) → (∀ μ2, I (k + i + 1) acc μ2 → K2 μ2) → g d Γ μ fun Γ1 => tt Γ1 μ (fun b μ2 => cond b (te Γ1 μ2 K1 fun _ _ => False) (K2 μ2)) fun _ _ => False) →
    acc.length + ds.length ≤ sizeLine → I k acc μ → (∀ acc μ, I (k + ds.length) acc μ → Gd src μ ∧ Q acc μ) → dCompL src g tt te Γ ds acc μ Q
  | [], acc, μ, k, _, _, h0, he => he acc μ h0
  | d :: ds, acc, μ, k, hs, hl, h0, he => by
    rw [List.length_cons] at hl
    obtain ⟨h1, h2⟩ := hs 0 d acc μ rfl h0
    refine ⟨h1, h2 _ _ (fun y μ3 hi => ⟨by omega, ?_⟩) (fun μ2 hi => ?_)⟩
    · refine comp_invA I ds _ μ3 (k + 1) (fun i e acc μ he hi => ?_) (by simp; omega) hi (fun acc μ hi => ?_)
      · have := hs (i + 1) e acc μ (by simpa using he) (by rw [show k + (i + 1) = k + 1 + i from by omega]; exact hi)
        rw [show k + (i + 1) + 1 = k + 1 + i + 1 from by omega] at this
        exact this
      · exact he acc μ (by rw [List.length_cons, show k + (ds.length + 1) = k + 1 + ds.length from by omega]; exact hi)
    · refine comp_invA I ds _ μ2 (k + 1) (fun i e acc μ he hi => ?_) (by omega) hi (fun acc μ hi => ?_)
      · have := hs (i + 1) e acc μ (by simpa using he) (by rw [show k + (i + 1) = k + 1 + i from by omega]; exact hi)
        rw [show k + (i + 1) + 1 = k + 1 + i + 1 from by omega] at this
        exact this
      · exact he acc μ (by rw [List.length_cons, show k + (ds.length + 1) = k + 1 + ds.length from by omega]; exact hi)
/-- a comprehension by an invariant: the turn's number, what is gathered, the cells -/
theorem comp_inv {src : Option (Nat × List D)} {g : D → Gam → Mu → (Gam → Prop) → Prop} {tt : DTT} {te : DTE} {Γ : Gam} {Q : List D → Mu → Prop} (I : Nat → List D → Mu → Prop) {ds : List D} {μ : Mu} (h0 : I 0 [] μ) (hl : ds.length ≤ sizeLine)
    (hs : ∀ i d acc μ, ds[i]? = some d → I i acc μ → Gd src μ ∧ ∀ (K1 : D → Mu → Prop) (K2 : Mu → Prop), (∀ y μ3, I (i + 1) (acc ++ [y]) μ3 → K1 y μ3) → (∀ μ2, I (i + 1) acc μ2 → K2 μ2) → g d Γ μ fun Γ1 => tt Γ1 μ (fun b μ2 => cond b (te Γ1 μ2 K1 fun _ _ => False) (K2 μ2)) fun _ _ => False)
    (he : ∀ acc μ, I ds.length acc μ → Gd src μ ∧ Q acc μ) : dCompL src g tt te Γ ds [] μ Q :=
  comp_invA I ds [] μ 0 (fun i d acc μ h => by rw [Nat.zero_add]; exact hs i d acc μ h) (by simpa using hl) h0 (fun acc μ h => he acc μ (by simpa using h))
theorem loop_invA {src : Option (Nat × List D)} {g : DTG} {body : DTS} {De : DEnds} (I : Nat → Gam → Mu → Prop) : ∀ (ds : List D) (Γ : Gam) (μ : Mu) (k : Nat),
    (∀ i d Γ μ, ds[i]? = some d → I (k + i) Γ μ → Gd src μ ∧ ∀ (Kn : Gam → Mu → Prop), (∀ Γ' μ', I (k + i + 1) Γ' μ' → Kn Γ' μ') → g d Γ μ (fun Γ1 μ1 => body { De with nx := Kn, ct := Kn, bk := De.nx } Γ1 μ1) (fun x μ1 => De.ex x Γ μ1)) →
    I k Γ μ → (∀ Γ μ, I (k + ds.length) Γ μ → Gd src μ ∧ De.nx Γ μ) → dLoop src g body ds De Γ μ
  | [], Γ, μ, k, _, h0, he => he Γ μ h0
  | d :: ds, Γ, μ, k, hs, h0, he => by
    obtain ⟨h1, h2⟩ := hs 0 d Γ μ rfl h0
    refine ⟨h1, h2 _ fun Γ' μ' hi => ?_⟩
    refine loop_invA I ds Γ' μ' (k + 1) (fun i e Γ μ he hi => ?_) hi (fun Γ μ hi => ?_)
    · have := hs (i + 1) e Γ μ (by simpa using he) (by rw [show k + (i + 1) = k + 1 + i from by omega]; exact hi)
      rw [show k + (i + 1) + 1 = k + 1 + i + 1 from by omega] at this
      exact this
    · exact he Γ μ (by rw [List.length_cons, show k + (ds.length + 1) = k + 1 + ds.length from by omega]; exact hi)
theorem loop_inv {src : Option (Nat × List D)} {g : DTG} {body : DTS} {De : DEnds} (I : Nat → Gam → Mu → Prop) {ds : List D} {Γ : Gam} {μ : Mu} (h0 : I 0 Γ μ)
    (hs : ∀ i d Γ μ, ds[i]? = some d → I i Γ μ → Gd src μ ∧ ∀ (Kn : Gam → Mu → Prop), (∀ Γ' μ', I (i + 1) Γ' μ' → Kn Γ' μ') → g d Γ μ (fun Γ1 μ1 => body { De with nx := Kn, ct := Kn, bk := De.nx } Γ1 μ1) (fun x μ1 => De.ex x Γ μ1))
    (he : ∀ Γ μ, I ds.length Γ μ → Gd src μ ∧ De.nx Γ μ) : dLoop src g body ds De Γ μ :=
  loop_invA I ds Γ μ 0 (fun i d Γ μ h => by rw [Nat.zero_add]; exact hs i d Γ μ h) h0 (fun Γ μ h => he Γ μ (by simpa using h))
theorem irng_get {lo : Int} {n i : Nat} {d : D} (h : (irng lo n)[i]? = some d) : i < n ∧ d = .int (lo + i) := by
  unfold irng at h
  rw [List.getElem?_map, Option.map_eq_some_iff] at h
  obtain ⟨j, h1, h2⟩ := h
  obtain ⟨h3, h4⟩ := List.getElem?_eq_some_iff.mp h1
  simp at h3 h4
  subst h4
  exact ⟨h3, h2.symm⟩
theorem irng_len (lo : Int) (n : Nat) : (irng lo n).length = n := by simp [irng]
/-! the oracle's cell -/
def M (μ : Mu) (l c : Nat) : Mu := μ.set l (.orc (c, true))
theorem M_get {μ : Mu} {l c : Nat} (h : l < μ.length) : (M μ l c)[l]? = some (.orc (c, true)) := by unfold M; rw [List.getElem?_set_self h]
theorem M_set {μ : Mu} {l c c' : Nat} : (M μ l c).set l (.orc (c', true)) = M μ l c' := by unfold M; rw [List.set_set]
theorem M_id {μ : Mu} {l c : Nat} (h : μ[l]? = some (.orc (c, true))) : M μ l c = μ := by
  obtain ⟨h1, h2⟩ := List.getElem?_eq_some_iff.mp h
  unfold M
  rw [← h2, List.set_getElem_self]
theorem M_len {μ : Mu} {l c : Nat} : (M μ l c).length = μ.length := by unfold M; rw [List.length_set]
theorem M_app {μ loc : Mu} {l c : Nat} (h : l < μ.length) : M (μ ++ loc) l c = M μ l c ++ loc := by unfold M; rw [List.set_append_left _ _ h]
theorem M_ne {μ : Mu} {l c j : Nat} (h : l ≠ j) : (M μ l c)[j]? = μ[j]? := by unfold M; rw [List.getElem?_set_ne h]
theorem M_upd {μ : Mu} {l c : Nat} : Upd μ (M μ l c) := (Upd.refl μ).set rfl
theorem orc_lt {μ : Mu} {l c : Nat} (h : μ[l]? = some (.orc (c, true))) : l < μ.length := (List.getElem?_eq_some_iff.mp h).1
theorem draw_M {μ : Mu} {l c : Nat} {m : Int} {Q : D → Mu → Prop} {E : Exn → Mu → Prop} (h : l < μ.length) (hc : 0 < c) (hm : 0 < m) (hm2 : m.natAbs < 2 ^ 60) (q : ∀ d, 0 ≤ d → d < m → Q (.int d) (M μ l (c - 1))) : S_draw [.ref l, .int m] (M μ l c) Q E :=
  draw_go (M_get h) hc hm (Nat.lt_of_lt_of_le (PySem.Flt.log2_lt_of (by decide) hm2) (by decide)) fun d h1 h2 => by rw [M_set]; exact q d h1 h2
/-! equality of texts, and of rows of them -/
theorem eqv_strs : ∀ (k j : Nat) (xs ys : List Str), PyData.eqv (.list ((xs.map D.str).map (D.py k))) (.list ((ys.map D.str).map (D.py j))) = decide (xs = ys) := by
  intro k j xs ys
  have e1 : (xs.map D.str).map (D.py k) = xs.map PyData.str := by
    rw [List.map_map]; congr 1; funext x; cases k <;> rfl
  have e2 : (ys.map D.str).map (D.py j) = ys.map PyData.str := by
    rw [List.map_map]; congr 1; funext x; cases j <;> rfl
  rw [e1, e2]
  simp only [PyData.eqv]
  have aux : ∀ xs ys : List Str, PyData.eqvAll (xs.map .str) (ys.map .str) = decide (xs = ys) := by
    intro xs
    induction xs with
    | nil => intro ys; cases ys <;> simp [PyData.eqvAll]
    | cons x xs ih =>
      intro ys
      cases ys with
      | nil => simp [PyData.eqvAll]
      | cons y ys =>
        simp only [List.map_cons, PyData.eqvAll, PyData.eqv, ih, List.cons.injEq]
        by_cases h : x = y <;> simp [h]
  exact aux xs ys
theorem okn_strs {xs : List Str} (h : ∀ x ∈ xs, asc x) (k : Nat) : (xs.map D.str).all (D.okn k) = true := by
  rw [List.all_eq_true]
  intro d hd
  obtain ⟨t, ht, rfl⟩ := List.mem_map.mp hd
  cases k <;> exact asc_ok (h t ht)
theorem deq_tupS {μ : Mu} {xs ys : List Str} (h1 : ∀ x ∈ xs, asc x) (h2 : ∀ x ∈ ys, asc x) : deqOk μ (.tup (xs.map .str)) (.tup (ys.map .str)) ∧ deq μ (.tup (xs.map .str)) (.tup (ys.map .str)) = decide (xs = ys) := by
  refine ⟨⟨okn_strs h1 11, okn_strs h2 11⟩, ?_⟩
  have := eqv_strs 11 11 xs ys
  unfold deq
  simp only [lk, D.py, PyData.eqv] at this ⊢
  exact this
end DV
/-! Words: plain facts on the names that a law draws. -/
namespace DV
open PySem PySem.Spec PyProof.Rows L2
def SG : Str := "abcdefghijklmnopqrstuvwxyz0123456789"
theorem sg_len : SG.length = 36 := by decide +kernel
theorem sg_low : ∀ i : Nat, i < 26 → SG.cps.toList[i]? = some (97 + i) := by decide +kernel
theorem sg_all : ∀ i : Nat, i < 36 → ∃ c, SG.cps.toList[i]? = some c ∧ isAln c = true ∧ c < 128 := by decide +kernel
theorem low_let : ∀ i : Nat, i < 26 → isLet (97 + i) = true ∧ isAln (97 + i) = true := by decide +kernel
theorem sg_at {i : Int} (h0 : 0 ≤ i) (h1 : i < 36) : ∃ c, atI SG.cps.toList i = some c ∧ isAln c = true ∧ c < 128 := by
  obtain ⟨c, h2, h3⟩ := sg_all i.toNat (by omega)
  exact ⟨c, atI_nat' h0 h2, h3⟩
theorem sg_let {i : Int} (h0 : 0 ≤ i) (h1 : i < 26) : atI SG.cps.toList i = some (97 + i.toNat) := atI_nat' h0 (sg_low i.toNat (by omega))
/-- a word of letters and digits -/
def aln (z : Str) : Prop := ∀ c ∈ z.cps.toList, isAln c = true ∧ c < 128
theorem aln_app2 {a b : Str} (ha : aln a) (hb : aln b) : aln (a ++ b) := fun c hc => by
  rw [cps_app] at hc
  rcases List.mem_append.mp hc with h | h
  · exact ha c h
  · exact hb c h
theorem aln_one {c : Nat} (h : isAln c = true) (h2 : c < 128) : aln ⟨#[c]⟩ := fun d hd => by
  have : d = c := by simpa using hd
  subst this; exact ⟨h, h2⟩
theorem aln_nil : aln "" := fun c hc => by
  have : (Str.ofString "").cps.toList = [] := by decide +kernel
  exact absurd (show c ∈ (Str.ofString "").cps.toList from hc) (by rw [this]; simp)
theorem aln_join {ts : List Str} (h : ∀ t ∈ ts, aln t) : aln (Txt.join "" ts) := fun c hc => by
  rw [TL.join_eq, join0] at hc
  obtain ⟨l, hl, hcl⟩ := List.mem_flatten.mp hc
  obtain ⟨t, ht, rfl⟩ := List.mem_map.mp hl
  exact h t ht c hcl
theorem valid_of {z : Str} {c : Nat} {r : List Nat} (h : aln z) (e : z.cps.toList = c :: r) (hc : isLet c = true) (hl : z.length ≤ 6) : validN z = true := by
  unfold validN validC
  have h1 : z.cps.toList.length ≤ 6 := by rw [← len_list]; exact hl
  have h2 : z.cps.toList.all isAln = true := List.all_eq_true.mpr fun d hd => (h d hd).1
  rw [h2]
  rw [e] at h1 ⊢
  simp only [hc, Bool.and_true]
  simp at h1 ⊢
  omega
theorem valid_asc {z : Str} (h : validN z = true) : asc z ∧ z.length ≤ 6 ∧ 1 ≤ z.length := by
  unfold validN validC at h
  simp only [Bool.and_eq_true, decide_eq_true_eq] at h
  obtain ⟨⟨⟨h1, h2⟩, h3⟩, h4⟩ := h
  have z1 : ∀ c ∈ LET.cps.toList, c < 128 := by decide +kernel
  have z2 : ∀ c ∈ DIG.cps.toList, c < 128 := by decide +kernel
  refine ⟨fun c hc => ?_, by rw [len_list]; exact h2, by rw [len_list]; exact h1⟩
  have q := List.all_eq_true.mp h4 c hc
  unfold isAln at q
  simp only [Bool.or_eq_true, decide_eq_true_eq] at q
  exact q.elim (z1 c) (z2 c)
/-! numbers below 64 as texts -/
def digs (i : Nat) : List Nat := if i < 10 then [48 + i] else [48 + i / 10, 48 + i % 10]
theorem dig_str : ∀ i : Nat, i < 100 → (Str.ofString (toString (i : Int))).cps.toList = digs i := by decide +kernel
theorem digs_inj {i j : Nat} (hi : i < 100) (hj : j < 100) (h : digs i = digs j) : i = j := by
  unfold digs at h
  split at h <;> split at h <;> simp at h <;> omega
theorem dig_aln : ∀ i : Nat, i < 10 → isAln (48 + i) = true := by decide +kernel
theorem digs_aln {i : Nat} (hi : i < 100) : ∀ c ∈ digs i, isAln c = true ∧ c < 128 := by
  intro c hc
  unfold digs at hc
  split at hc
  · have : c = 48 + i := by simpa using hc
    subst this; exact ⟨dig_aln i (by omega), by omega⟩
  · simp at hc
    rcases hc with rfl | rfl
    · exact ⟨dig_aln _ (by omega), by omega⟩
    · exact ⟨dig_aln _ (by omega), by omega⟩
theorem digs_len (i : Nat) : (digs i).length ≤ 2 := by unfold digs; split <;> simp
theorem str_ext {a b : Str} (h : a.cps.toList = b.cps.toList) : a = b := by
  cases a with | mk x => cases b with | mk y => simp at h; subst h; rfl
/-- what is known of drawn names -/
structure Wds (k : Nat) (ws : List Str) : Prop where
  len : ws.length = k
  nd : ws.Nodup
  ok : ∀ w ∈ ws, validN w = true
theorem wds_map {k : Nat} {f : Nat → Str} (hv : ∀ i, i < k → validN (f i) = true) (hi : ∀ i j, i < k → j < k → f i = f j → i = j) : Wds k ((List.range k).map f) := by
  refine ⟨by simp, ?_, fun w hw => ?_⟩
  · rw [List.nodup_iff_pairwise_ne, List.pairwise_map]
    refine List.Pairwise.imp_of_mem (fun {a b} ha hb hne e => hne (hi a b (List.mem_range.mp ha) (List.mem_range.mp hb) e)) (List.nodup_iff_pairwise_ne.mp List.nodup_range)
  · obtain ⟨i, h1, rfl⟩ := List.mem_map.mp hw
    exact hv i (List.mem_range.mp h1)
end DV
local macro_rules | `(tactic| walk_at "dv") => `(tactic| try simp only [DV.dSeq, DV.dIf, DV.dOrT, DV.dAndT, DV.dNotT, DV.dTest, DV.dChain, DV.dC, DV.dCall, DV.gLen, DV.dCons, DV.dVar, DV.dNil, DV.dBin, DV.dUn, DV.gNeg, DV.gIn, DV.gIx, DV.dRet, DV.dRetN, DV.dNext, DV.dFor, DV.dIter, DV.dName, DV.lk, DV.dAsg, DV.dDrop, DV.gLst, DV.gTup, DV.gLstM, DV.gAdd, DV.gI, DV.gMod, DV.gMul, DV.gFdiv, DV.gPow, DV.gAbs, DV.gInt, DV.gList, DV.gTuple, DV.dOp, DV.dOpK, DV.dIsi, DV.tyD, DV.gIs, DV.gIsNot, DV.D.isN, DV.dJoin, DV.dCellM, DV.dSetI, DV.dSlice, DV.dPart, DV.dNoPart, DV.dRevA, DV.dFin, DV.dAugI, DV.dComp, DV.wipeG, DV.cName, DV.cPair, DV.dYes, DV.dRange1, DV.dRange2, DV.dAnd, DV.dOr, DV.dNot, DV.dIfE, DV.gEq, DV.gNe, DV.sgn_one, DV.atI_zero, DV.dTruth, DV.truD, DV.dBreak, DV.dCont, DV.gSorted, DV.dSortK, DV.dRevT, DV.gInD, DV.gIsB, DV.gStr, DV.dPop0, DV.dDict, DV.dPairs, DV.keysD, DV.keyOfD, DV.dFinD, DV.dFld, DV.dSetF, DV.dMake, DV.dMethod, DV.dProp, DV.dOwnIx, DV.dNever,
  List.getElem?_cons_zero, List.getElem?_cons_succ, List.set_cons_zero, List.set_cons_succ, List.map_cons, List.map_nil, List.length_cons, List.length_nil, List.replicate, List.cons_append, List.nil_append, DV.start0, if_true, if_false, Bool.not_true, Bool.not_false, Bool.false_eq_true, Bool.true_and, Bool.and_true, Bool.or_true, Bool.true_or, Bool.false_or, Bool.or_false, eq_self_iff_true, not_true_eq_false, not_false_eq_true, ite_true, ite_false, cond_true, cond_false])
/-! The reading of the law's own `_law_names`. -/
namespace DV
open PySem PySem.Spec PyProof.Rows L2
def t_names_11 : DTS := dRet (dVar 10)
def t_names_10 : DTS := dSeq (dFor (dRange1 (dVar 1)) (dName 11) (dSeq (dAsg (dBin gIx (dVar 2) (dBin gMod (dCall gInt (dCons (dBin gAdd (dVar 5) (dBin gMul (dVar 6) (dVar 11))) dNil)) (dC (.int 26)))) (dName 12)) (dSeq (dAsg (dBin gIx (dCall gLst (dCons (dVar 3) (dCons (dC (.str "")) (dNil)))) (dCall gInt (dCons (dAnd (dBin (gI fun i j => .bl (decide (j < i))) (dVar 7) (dC (.int 1))) (dBin gEq (dBin gMod (dVar 11) (dC (.int 2))) (dC (.int 1)))) dNil))) (dName 13)) (dDrop (dCellM cAppend (dVar 10) (dCons (dBin gIx (dCall gLst (dCons (dBin gAdd (dBin gAdd (dVar 4) (dVar 13)) (dVar 12)) (dCons (dBin gAdd (dVar 12) (dVar 13)) (dNil)))) (dBin gMod (dCall gInt (dCons (dVar 7) dNil)) (dC (.int 2)))) dNil)))))) t_names_11
def t_names_9 : DTS := dSeq (dAsg (dCall gLstM (dNil)) (dName 10)) t_names_10
def t_names_8 : DTS := dSeq (dIf (dTest (dBin gEq (dVar 7) (dC (.int 5)))) (dSeq (dAsg (dBin gAdd (dVar 4) (dJoin (dC (.str "")) (dComp true [11] (dRange1 (dC (.int 5))) (cName 11) (dYes) (dBin gIx (dVar 2) (dOp S_draw (dCons (dVar 0) (dCons (dC (.int 36)) (dNil)))))))) (dName 9)) (dRet (dComp true [11] (dRange1 (dVar 1)) (cName 11) (dYes) (dSlice true (dVar 9) dNoPart (dPart (dBin gAdd (dVar 11) (dC (.int 1)))))))) (dNext)) t_names_9
def t_names_7 : DTS := dSeq (dIf (dOrT (dTest (dBin gEq (dVar 7) (dC (.int 4)))) (dAndT (dTest (dBin gEq (dVar 7) (dC (.int 5)))) (dTest (dBin (gI fun i j => .bl (decide (j < i))) (dVar 1) (dC (.int 6)))))) (dSeq (dAsg (dBin gAdd (dC (.int 1)) (dOp S_draw (dCons (dVar 0) (dCons (dC (.int 9)) (dNil))))) (dName 8)) (dRet (dComp true [11] (dRange1 (dVar 1)) (cName 11) (dYes) (dBin gAdd (dVar 4) (dCall gStr (dCons (dBin gMul (dVar 8) (dBin gAdd (dVar 11) (dC (.int 1)))) dNil)))))) (dNext)) t_names_8
def t_names_6 : DTS := dSeq (dIf (dAndT (dTest (dBin gEq (dVar 7) (dC (.int 6)))) (dTest (dBin (gI fun i j => .bl (decide (i < j))) (dVar 1) (dC (.int 7))))) (dRet (dSlice true (dCall gLst (dCons (dC (.str "rows")) (dCons (dC (.str "leaf")) (dCons (dC (.str "x")) (dCons (dC (.str "x1")) (dCons (dC (.str "x10")) (dCons (dC (.str "none")) (dNil)))))))) dNoPart (dPart (dVar 1)))) (dNext)) t_names_7
def t_names_5 : DTS := dSeq (dAsg (dOp S_draw (dCons (dVar 0) (dCons (dC (.int 7)) (dNil)))) (dName 7)) t_names_6
def t_names_4 : DTS := dSeq (dAsg (dBin gIx (dCall gLst (dCons (dC (.int 1)) (dCons (dC (.int 3)) (dCons (dC (.int 5)) (dCons (dC (.int 7)) (dCons (dC (.int 9)) (dCons (dC (.int 11)) (dNil)))))))) (dOp S_draw (dCons (dVar 0) (dCons (dC (.int 6)) (dNil))))) (dName 6)) t_names_5
def t_names_3 : DTS := dSeq (dAsg (dOp S_draw (dCons (dVar 0) (dCons (dC (.int 26)) (dNil)))) (dName 5)) t_names_4
def t_names_2 : DTS := dSeq (dAsg (dBin gIx (dVar 2) (dOp S_draw (dCons (dVar 0) (dCons (dC (.int 26)) (dNil))))) (dName 4)) t_names_3
def t_names_1 : DTS := dSeq (dAsg (dJoin (dC (.str "")) (dComp true [11] (dRange1 (dOp S_draw (dCons (dVar 0) (dCons (dC (.int 5)) (dNil))))) (cName 11) (dYes) (dBin gIx (dVar 2) (dOp S_draw (dCons (dVar 0) (dCons (dC (.int 36)) (dNil))))))) (dName 3)) t_names_2
def t_names : DTS := dSeq (dAsg (dC (.str "abcdefghijklmnopqrstuvwxyz0123456789")) (dName 2)) t_names_1
def S_names : DSp := fun ds μ Q _ => ∃ l c k, ds = [.ref l, .int k] ∧ μ[l]? = some (.orc (c, true)) ∧ 20 ≤ c ∧ 0 ≤ k ∧ k ≤ 8 ∧
  ∀ c' ws, c' ≤ c → c ≤ c' + 20 → Wds k.toNat ws → Q (.lst (ws.map .str)) (μ.set l (.orc (c', true)))
/-- signs drawn of SG, i at a time -/
theorem comp_sg {μ : Mu} {l c : Nat} {Γ : Gam} {Q : List D → Mu → Prop} {n : Nat} (hl : l < μ.length) (hn : n ≤ 100) (hc : n ≤ c) (g0 : Γ[0]? = some (some (.ref l))) (g2 : Γ[2]? = some (some (.str SG)))
    (q : ∀ ts : List Str, ts.length = n → (∀ t ∈ ts, aln t ∧ t.length = 1) → Q (ts.map .str) (M μ l (c - n))) :
    dCompL none (cName 11) dYes (dBin gIx (dVar 2) (dOp S_draw (dCons (dVar 0) (dCons (dC (.int 36)) dNil)))) Γ (irng 0 n) [] (M μ l c) Q := by
  refine comp_inv (fun i acc μ' => ∃ ts : List Str, acc = ts.map .str ∧ ts.length = i ∧ (∀ t ∈ ts, aln t ∧ t.length = 1) ∧ i ≤ n ∧ μ' = M μ l (c - i)) ⟨[], rfl, rfl, by simp, by omega, by simp⟩ (by rw [irng_len, sizeLine_eq]; omega) ?_ ?_
  · rintro i d acc μ' hd ⟨ts, rfl, h1, h2, h3, rfl⟩
    obtain ⟨hi, rfl⟩ := irng_get hd
    refine ⟨trivial, fun K1 K2 k1 k2 => ?_⟩
    have e0 : (Γ.set 11 (some (D.int (0 + (i : Int)))))[0]? = some (some (.ref l)) := by rw [List.getElem?_set_ne (by decide)]; exact g0
    have e2 : (Γ.set 11 (some (D.int (0 + (i : Int)))))[2]? = some (some (.str SG)) := by rw [List.getElem?_set_ne (by decide)]; exact g2
    simp only [cName, dYes, cond_true, dBin, dVar, e0, e2, dOp, dCons, dC, dNil]
    refine draw_M hl (by omega) (by decide) (by decide) fun j j0 j1 => ?_
    obtain ⟨ch, a1, a2, a3⟩ := sg_at j0 j1
    simp only [gIx, lk, a1]
    refine ⟨by rw [sg_len, sizeLine_eq]; omega, k1 _ _ ⟨ts ++ [⟨#[ch]⟩], by simp, by simp [h1], fun t ht => ?_, by omega, by congr 1⟩⟩
    rcases List.mem_append.mp ht with z | z
    · exact h2 t z
    · rw [List.mem_singleton.mp z]; exact ⟨aln_one a2 a3, rfl⟩
  · rintro acc μ' ⟨ts, rfl, h1, h2, h3, rfl⟩
    rw [irng_len] at h1 h3 ⊢
    exact ⟨trivial, q ts h1 h2⟩
/-- the end of names: a list as data -/
theorem names_end {μ : Mu} {l c c' : Nat} {k : Int} {ws : List Str} {Q : D → Mu → Prop} (hc : c' ≤ c) (hc2 : c ≤ c' + 20) (hw : Wds k.toNat ws) (q : ∀ c' ws, c' ≤ c → c ≤ c' + 20 → Wds k.toNat ws → Q (.lst (ws.map .str)) (μ.set l (.orc (c', true)))) :
    FnEnd μ (.lst (ws.map .str)) (M μ l c') Q := by
  refine FnEnd.pure0 M_upd ?_ (q c' ws hc hc2 hw)
  show D.puL _ = true
  clear hw q
  induction ws with
  | nil => rfl
  | cons w ws ih => exact ih
theorem len_pre (c : Nat) (z : Str) : ((⟨#[c]⟩ : Str) ++ z).cps.toList = c :: z.cps.toList := by rw [cps_app]; rfl
theorem len_one1 (c : Nat) : (⟨#[c]⟩ : Str).length = 1 := rfl
theorem lenz (z : Str) : (Str.ofString "").length = 0 := by decide +kernel
/-- the words letter + back + sign, or sign + back -/
theorem wds_signs {k : Int} {stem : Str} {lc : Nat} {o st : Int} {plan : Int} (hk0 : 0 ≤ k) (hk : k ≤ 8) (ha : aln stem) (hs : stem.length ≤ 4) (hl : lc < 26) (ho : 0 ≤ o ∧ o < 26) (hst : st = 1 ∨ st = 3 ∨ st = 5 ∨ st = 7 ∨ st = 9 ∨ st = 11) (back : Nat → Str) (hb : ∀ i, back i = stem ∨ back i = "") :
    Wds k.toNat ((List.range k.toNat).map fun i => if plan % 2 = 0 then (⟨#[97 + lc]⟩ : Str) ++ back i ++ ⟨#[97 + ((o + st * i) % 26).toNat]⟩ else (⟨#[97 + ((o + st * i) % 26).toNat]⟩ : Str) ++ back i) := by
  have sg : ∀ i : Nat, ((o + st * i) % 26).toNat < 26 := fun i => by have := Int.emod_lt_of_pos (o + st * i) (show (0 : Int) < 26 by decide); have := Int.emod_nonneg (o + st * i) (show (26 : Int) ≠ 0 by decide); omega
  have hba : ∀ i, aln (back i) ∧ (back i).length ≤ 4 := fun i => by
    rcases hb i with e | e <;> rw [e]
    · exact ⟨ha, hs⟩
    · exact ⟨aln_nil, by rw [lenz stem]; omega⟩
  have inj : ∀ i j : Nat, i < k.toNat → j < k.toNat → ((o + st * i) % 26).toNat = ((o + st * j) % 26).toNat → i = j := fun i j hi hj e => by
    have a1 := Int.emod_nonneg (o + st * i) (show (26 : Int) ≠ 0 by decide)
    have a2 := Int.emod_nonneg (o + st * j) (show (26 : Int) ≠ 0 by decide)
    rcases hst with rfl | rfl | rfl | rfl | rfl | rfl <;> omega
  refine wds_map (fun i hi => ?_) fun i j hi hj e => ?_
  · obtain ⟨b1, b2⟩ := hba i
    split
    · refine valid_of (aln_app2 (aln_app2 (aln_one (low_let lc hl).2 (by omega)) b1) (aln_one (low_let _ (sg i)).2 (by have := sg i; omega))) (c := 97 + lc) (r := (back i).cps.toList ++ [97 + ((o + st * i) % 26).toNat]) ?_ (low_let lc hl).1 ?_
      · rw [cps_app, len_pre]; rfl
      · rw [len_app, len_app, len_one1, len_one1]; omega
    · refine valid_of (aln_app2 (aln_one (low_let _ (sg i)).2 (by have := sg i; omega)) b1) (len_pre _ _) (low_let _ (sg i)).1 ?_
      rw [len_app, len_one1]; omega
  · refine inj i j hi hj ?_
    split at e
    · have e2 := congrArg (fun z : Str => z.cps.toList.getLast?) e
      have g : ∀ (a : Str) (c : Nat), (a ++ (⟨#[c]⟩ : Str)).cps.toList.getLast? = some c := fun a c => by rw [cps_app]; exact List.getLast?_concat
      simp only [g, Option.some.injEq] at e2
      omega
    · have e2 := congrArg (fun z : Str => z.cps.toList) e
      simp only [len_pre, List.cons.injEq] at e2
      omega
/-- letter + str(step * (k + 1)) -/
theorem wds_nums {k : Int} {lc : Nat} {st : Int} (hk0 : 0 ≤ k) (hk : k ≤ 8) (hl : lc < 26) (h1 : 1 ≤ st) (h2 : st ≤ 9) : Wds k.toNat ((List.range k.toNat).map fun i : Nat => (⟨#[97 + lc]⟩ : Str) ++ Str.ofString (toString (st * ((i : Int) + 1)))) := by
  have b : ∀ i : Nat, i < k.toNat → 0 ≤ st * ((i : Int) + 1) ∧ st * ((i : Int) + 1) < 100 := fun i hi => by
    have : st = 1 ∨ st = 2 ∨ st = 3 ∨ st = 4 ∨ st = 5 ∨ st = 6 ∨ st = 7 ∨ st = 8 ∨ st = 9 := by omega
    rcases this with rfl | rfl | rfl | rfl | rfl | rfl | rfl | rfl | rfl <;> omega
  have ds : ∀ i : Nat, i < k.toNat → (Str.ofString (toString (st * ((i : Int) + 1)))).cps.toList = digs (st * ((i : Int) + 1)).toNat := fun i hi => by
    have := dig_str (st * ((i : Int) + 1)).toNat (by have := b i hi; omega)
    rw [show (((st * ((i : Int) + 1)).toNat : Nat) : Int) = st * ((i : Int) + 1) from by have := b i hi; omega] at this
    exact this
  refine wds_map (fun i hi => ?_) fun i j hi hj e => ?_
  · have h3 : aln (Str.ofString (toString (st * ((i : Int) + 1)))) := fun c hc => by
      rw [ds i hi] at hc
      exact digs_aln (by have := b i hi; omega) c hc
    refine valid_of (aln_app2 (aln_one (low_let lc hl).2 (by omega)) h3) (len_pre _ _) (low_let lc hl).1 ?_
    rw [len_app, len_one1, len_list, ds i hi]
    have := digs_len (st * ((i : Int) + 1)).toNat
    omega
  · have e2 := congrArg (fun z : Str => z.cps.toList) e
    simp only [len_pre, List.cons.injEq, true_and] at e2
    rw [ds i hi, ds j hj] at e2
    have e3 := digs_inj (by have := b i hi; omega) (by have := b j hj; omega) e2
    have e4 : st * ((i : Int) + 1) = st * ((j : Int) + 1) := by have := b i hi; have := b j hj; omega
    have : st = 1 ∨ st = 2 ∨ st = 3 ∨ st = 4 ∨ st = 5 ∨ st = 6 ∨ st = 7 ∨ st = 8 ∨ st = 9 := by omega
    rcases this with rfl | rfl | rfl | rfl | rfl | rfl | rfl | rfl | rfl <;> omega
theorem menu6 {i : Int} (h0 : 0 ≤ i) (h1 : i < 6) : ∃ b : Int, atI [D.int 1, D.int 3, D.int 5, D.int 7, D.int 9, D.int 11] i = some (.int b) ∧ (b = 1 ∨ b = 3 ∨ b = 5 ∨ b = 7 ∨ b = 9 ∨ b = 11) := by
  have : i = 0 ∨ i = 1 ∨ i = 2 ∨ i = 3 ∨ i = 4 ∨ i = 5 := by omega
  rcases this with rfl | rfl | rfl | rfl | rfl | rfl
  · exact ⟨1, rfl, by simp⟩
  · exact ⟨3, rfl, by simp⟩
  · exact ⟨5, rfl, by simp⟩
  · exact ⟨7, rfl, by simp⟩
  · exact ⟨9, rfl, by simp⟩
  · exact ⟨11, rfl, by simp⟩
theorem nodupC : Wds 6 (["rows", "leaf", "x", "x1", "x10", "none"] : List Str) := ⟨rfl, by decide +kernel, by decide +kernel⟩
theorem cut_to {α : Type} (xs : List α) {k : Int} (h0 : 0 ≤ k) : cutL xs none (some k) = xs.take k.toNat := by
  unfold cutL
  have h1 : HT.sIx xs.length 0 none = 0 := rfl
  have h2 : HT.sIx xs.length xs.length (some k) = min k.toNat xs.length := by
    simp only [HT.sIx]
    first | (split <;> omega) | omega
  rw [h1, h2]
  simp only [List.drop_zero, Nat.sub_zero]
  rcases Nat.le_total k.toNat xs.length with h | h
  · rw [Nat.min_eq_left h]
  · rw [Nat.min_eq_right h, List.take_of_length_le h, List.take_length]
def wordAt (stem : Str) (lc : Nat) (o st plan : Int) (i : Nat) : Str := if plan % 2 = 0 then (⟨#[97 + lc]⟩ : Str) ++ (if 1 < plan ∧ i % 2 = 1 then Str.ofString "" else stem) ++ ⟨#[97 + ((o + st * i) % 26).toNat]⟩ else (⟨#[97 + ((o + st * i) % 26).toNat]⟩ : Str) ++ (if 1 < plan ∧ i % 2 = 1 then Str.ofString "" else stem)
theorem names_9 {μ : Mu} {l c c' lc : Nat} {k o st plan : Int} {stem : Str} {Q : D → Mu → Prop} {E : Exn → Mu → Prop} (hl : l < μ.length) (hk0 : 0 ≤ k) (hk8 : k ≤ 8) (hc1 : c' ≤ c) (hc2 : c ≤ c' + 9) (ha : aln stem) (hs : stem.length ≤ 4) (hlc : lc < 26) (ho : 0 ≤ o ∧ o < 26)
    (hst : st = 1 ∨ st = 3 ∨ st = 5 ∨ st = 7 ∨ st = 9 ∨ st = 11) (hp : 0 ≤ plan ∧ plan < 7) (q : ∀ c' ws, c' ≤ c → c ≤ c' + 20 → Wds k.toNat ws → Q (.lst (ws.map .str)) (μ.set l (.orc (c', true)))) :
    t_names_9 (dFn μ Q E) [some (.ref l), some (.int k), some (.str SG), some (.str stem), some (.str ⟨#[97 + lc]⟩), some (.int o), some (.int st), some (.int plan), none, none, none, none, none, none] (M μ l c') := by
  unfold t_names_9
  walk_at "dv"
  refine ⟨by decide, ?_⟩
  unfold t_names_10
  walk_at "dv"
  rw [M_len]
  refine ⟨by omega, loop_inv (fun i Γ μ' => ∃ x11 x12 x13, Γ = [some (.ref l), some (.int k), some (.str SG), some (.str stem), some (.str ⟨#[97 + lc]⟩), some (.int o), some (.int st), some (.int plan), none, none, some (.ref μ.length), x11, x12, x13] ∧ i ≤ k.toNat ∧
    μ' = M μ l c' ++ [.lst (((List.range i).map (wordAt stem lc o st plan)).map .str)]) ⟨none, none, none, rfl, by omega, rfl⟩ ?_ ?_⟩
  · rintro i d Γ μ' hd ⟨x11, x12, x13, rfl, hi, rfl⟩
    obtain ⟨hi, rfl⟩ := irng_get hd
    refine ⟨trivial, fun Kn kn => ?_⟩
    have em : (o + st * (0 + (i : Int))).fmod 26 = (o + st * i) % 26 := by rw [Int.fmod_eq_emod_of_nonneg _ (by decide), Int.zero_add]
    have a1 := Int.emod_nonneg (o + st * i) (show (26 : Int) ≠ 0 by decide)
    have a2 := Int.emod_lt_of_pos (o + st * i) (show (0 : Int) < 26 by decide)
    have gx : (M μ l c' ++ [Cell.lst (((List.range i).map (wordAt stem lc o st plan)).map D.str)])[μ.length]? = some (.lst (((List.range i).map (wordAt stem lc o st plan)).map D.str)) := by rw [List.getElem?_append_right (by rw [M_len]; omega), M_len]; simp
    walk_at "dv"
    refine ⟨by rcases hst with rfl | rfl | rfl | rfl | rfl | rfl <;> simp, by decide, by rw [sg_len, sizeLine_eq]; omega, ?_⟩
    rw [em, sg_let a1 a2]
    dsimp only
    refine ⟨by rw [sizeLine_eq]; omega, ?_⟩
    have pm : plan.fmod 2 = plan % 2 := Int.fmod_eq_emod_of_nonneg _ (by decide)
    have im : (0 + (i : Int)).fmod 2 = ((i % 2 : Nat) : Int) := by rw [Int.fmod_eq_emod_of_nonneg _ (by decide)]; omega
    have ld : ∀ z : Str, lk (M μ l c' ++ [Cell.lst (((List.range i).map (wordAt stem lc o st plan)).map D.str)]) (D.str z) = D.str z := fun _ => rfl
    have fin : ∀ (w : Str) (x12 x13 : Option D), w = wordAt stem lc o st plan i → Kn [some (.ref l), some (.int k), some (.str SG), some (.str stem), some (.str ⟨#[97 + lc]⟩), some (.int o), some (.int st), some (.int plan), none, none, some (.ref μ.length), some (.int (0 + (i : Int))), x12, x13]
        (List.set (M μ l c' ++ [Cell.lst (((List.range i).map (wordAt stem lc o st plan)).map D.str)]) μ.length (Cell.lst (((List.range i).map (wordAt stem lc o st plan)).map D.str ++ [D.str w]))) := fun w x12 x13 hw => by
      refine kn _ _ ⟨_, _, _, rfl, by omega, ?_⟩
      rw [List.set_append_right _ _ (by rw [M_len]; omega), M_len, Nat.sub_self, List.set_cons_zero, List.range_succ, List.map_append, List.map_append, hw]
      rfl
    have ap : ∀ d, cAppend (((List.range i).map (wordAt stem lc o st plan)).map D.str) [d] = some (.non, ((List.range i).map (wordAt stem lc o st plan)).map D.str ++ [d]) := fun d => by
      unfold cAppend
      dsimp only
      rw [if_pos (by simp only [List.length_map, List.length_range, sizeLine_eq]; omega)]
    have z0 : (Str.ofString "").length = 0 := by decide +kernel
    have i0 : ∀ a b : D, atI [a, b] 0 = some a := fun _ _ => rfl
    have i1 : ∀ a b : D, atI [a, b] 1 = some b := fun _ _ => rfl
    have di : decide ((0 + (i : Int)).fmod 2 = 1) = decide (i % 2 = 1) := by rw [im]; by_cases h : i % 2 = 1 <;> simp [h] <;> omega
    simp only [deq_int, di, pm, gx]
    have hs2 : stem.length + 8 ≤ sizeLine := by rw [sizeLine_eq]; omega
    have n1 : ∀ c : Nat, (⟨#[c]⟩ : Str).length = 1 := fun _ => rfl
    rcases (by omega : plan % 2 = 0 ∨ plan % 2 = 1) with h2 | h2 <;> by_cases h1 : 1 < plan <;> by_cases h3 : i % 2 = 1 <;>
      simp only [h1, h2, h3, decide_true, decide_false, cond_true, cond_false, if_true, if_false, i0, i1, ap, gx, Bool.false_eq_true, ld, lk]
    all_goals
      repeat (refine And.intro (by first | decide | exact deqOk_int _ _ _ | (simp only [len_app, n1, z0]; omega)) ?_)
      exact fin _ _ _ (by unfold wordAt; simp [h1, h2, h3])
  · rintro Γ μ' ⟨x11, x12, x13, rfl, hi, rfl⟩
    rw [irng_len]
    refine ⟨trivial, ?_⟩
    unfold t_names_11
    walk_at "dv"
    have hw := wds_signs (plan := plan) hk0 hk8 ha hs hlc ho hst (fun i => if 1 < plan ∧ i % 2 = 1 then Str.ofString "" else stem) (fun i => by split <;> simp)
    refine .inr ⟨M μ l c', _, rfl, M_upd, .inr (.inr (.inr (.inl ⟨0, _, by rw [M_len]; rfl, rfl, ?_, ?_⟩)))⟩
    · have aux : ∀ ws : List Str, D.puL (ws.map D.str) = true := fun ws => by
        induction ws with
        | nil => rfl
        | cons w ws ih => exact ih
      exact aux _
    · exact q c' _ hc1 (by omega) hw
theorem comp_rng {v : Nat} {te : DTE} {Γ : Gam} {μ : Mu} {Q : List D → Mu → Prop} {n : Nat} (g : Nat → D) (hn : n ≤ sizeLine) (h : ∀ i, i < n → ∀ K1 : D → Mu → Prop, K1 (g i) μ → te (Γ.set v (some (.int (0 + (i : Int))))) μ K1 (fun _ _ => False)) (q : Q ((List.range n).map g) μ) :
    dCompL none (cName v) dYes te Γ (irng 0 n) [] μ Q := by
  refine comp_inv (fun i acc μ' => acc = (List.range i).map g ∧ μ' = μ) ⟨rfl, rfl⟩ (by rw [irng_len]; exact hn) ?_ ?_
  · rintro i d acc μ' hd ⟨rfl, rfl⟩
    obtain ⟨hi, rfl⟩ := irng_get hd
    refine ⟨trivial, fun K1 K2 k1 k2 => h i hi K1 (k1 _ _ ⟨?_, rfl⟩)⟩
    rw [List.range_succ, List.map_append]; rfl
  · rintro acc μ' ⟨rfl, rfl⟩
    rw [irng_len]
    exact ⟨trivial, q⟩
theorem wds_pre {k : Int} {z : Str} {lc : Nat} {r : List Nat} (hk0 : 0 ≤ k) (hk : k ≤ 6) (ha : aln z) (hz : z.length = 6) (e : z.cps.toList = (97 + lc) :: r) (hl : lc < 26) : Wds k.toNat ((List.range k.toNat).map fun i : Nat => cutS z none (some (0 + (i : Int) + 1))) := by
  have el : ∀ i : Nat, (cutS z none (some (0 + (i : Int) + 1))).cps.toList = z.cps.toList.take (i + 1) := fun i => by
    have := cut_to z.cps.toList (k := 0 + (i : Int) + 1) (by omega)
    unfold cutL at this
    rw [← len_list] at this
    unfold cutS
    dsimp only
    rw [List.toList_toArray, this]
    congr 1
    omega
  have hz2 : z.cps.toList.length = 6 := by rw [← len_list]; exact hz
  refine wds_map (fun i hi => ?_) fun i j hi hj eq => ?_
  · refine valid_of (c := 97 + lc) (r := r.take i) (fun c hc => ?_) ?_ (low_let lc hl).1 ?_
    · rw [el i] at hc
      exact ha c (List.mem_of_mem_take hc)
    · rw [el i, e]; rfl
    · rw [len_list, el i, List.length_take]; omega
  · have e2 := congrArg (fun z : Str => z.cps.toList.length) eq
    simp only [el, List.length_take] at e2
    omega
theorem names_8 {μ : Mu} {l c c' lc : Nat} {k o st plan : Int} {stem : Str} {Q : D → Mu → Prop} {E : Exn → Mu → Prop} (hl : l < μ.length) (hk0 : 0 ≤ k) (hk8 : k ≤ 8) (hc1 : c' ≤ c) (hc2 : c ≤ c' + 9) (hc3 : 11 ≤ c') (ha : aln stem) (hs : stem.length ≤ 4) (hlc : lc < 26) (ho : 0 ≤ o ∧ o < 26)
    (hst : st = 1 ∨ st = 3 ∨ st = 5 ∨ st = 7 ∨ st = 9 ∨ st = 11) (hp : 0 ≤ plan ∧ plan < 7) (h7 : ¬ (plan = 5 ∧ 6 < k)) (q : ∀ c' ws, c' ≤ c → c ≤ c' + 20 → Wds k.toNat ws → Q (.lst (ws.map .str)) (μ.set l (.orc (c', true)))) :
    t_names_8 (dFn μ Q E) [some (.ref l), some (.int k), some (.str SG), some (.str stem), some (.str ⟨#[97 + lc]⟩), some (.int o), some (.int st), some (.int plan), none, none, none, none, none, none] (M μ l c') := by
  unfold t_names_8
  walk_at "dv"
  simp only [deq_int]
  refine ⟨deqOk_int _ _ _, ?_⟩
  by_cases h5 : plan = 5
  · simp only [h5, decide_true, cond_true]
    refine ⟨⟨_, rfl⟩, by decide, comp_sg hl (by decide) (by simp; omega) rfl rfl fun ts h1 h2 => ?_⟩
    rw [strD_map]
    have o1 : ∀ t ∈ ts, t.length = 1 := fun t ht => (h2 t ht).2
    have ht5 : ts.length = 5 := h1
    have hjl : (Txt.join (Str.ofString "") ts).length = 5 := by rw [len_join o1, ht5]
    have hja : aln (Txt.join (Str.ofString "") ts) := aln_join fun t ht => (h2 t ht).1
    refine ⟨by rw [sum_ones o1, ht5]; decide +kernel, by rw [hjl, sizeLine_eq]; show 1 + 5 ≤ _; decide, by omega, ?_⟩
    generalize Txt.join (Str.ofString "") ts = z at hjl hja ⊢
    refine comp_rng (fun i : Nat => D.str (cutS ((⟨#[97 + lc]⟩ : Str) ++ z) none (some (0 + (i : Int) + 1)))) (by rw [sizeLine_eq]; omega) (fun i hi K1 k1 => ?_) ?_
    · walk_at "dv"
      exact ⟨by rw [len_app, hjl, sizeLine_eq]; show 1 + 5 ≤ _; decide, k1⟩
    · have hw := wds_pre (k := k) (z := (⟨#[97 + lc]⟩ : Str) ++ z) (lc := lc) (r := z.cps.toList) hk0 (by omega) (aln_app2 (aln_one (low_let lc hlc).2 (by omega)) hja) (by rw [len_app, hjl]; rfl) (len_pre _ _) hlc
      have := names_end (μ := μ) (l := l) (c' := c' - Int.toNat 5) (Q := Q) (c := c) (k := k) (by simp; omega) (by simp; omega) hw q
      rw [List.map_map] at this
      exact this
  · simp only [h5, decide_false, cond_false]
    exact names_9 hl hk0 hk8 hc1 hc2 ha hs hlc ho hst hp q
theorem names_7 {μ : Mu} {l c c' lc : Nat} {k o st plan : Int} {stem : Str} {Q : D → Mu → Prop} {E : Exn → Mu → Prop} (hl : l < μ.length) (hk0 : 0 ≤ k) (hk8 : k ≤ 8) (hc1 : c' ≤ c) (hc2 : c ≤ c' + 9) (hc3 : 11 ≤ c') (ha : aln stem) (hs : stem.length ≤ 4) (hlc : lc < 26) (ho : 0 ≤ o ∧ o < 26)
    (hst : st = 1 ∨ st = 3 ∨ st = 5 ∨ st = 7 ∨ st = 9 ∨ st = 11) (hp : 0 ≤ plan ∧ plan < 7) (q : ∀ c' ws, c' ≤ c → c ≤ c' + 20 → Wds k.toNat ws → Q (.lst (ws.map .str)) (μ.set l (.orc (c', true)))) :
    t_names_7 (dFn μ Q E) [some (.ref l), some (.int k), some (.str SG), some (.str stem), some (.str ⟨#[97 + lc]⟩), some (.int o), some (.int st), some (.int plan), none, none, none, none, none, none] (M μ l c') := by
  unfold t_names_7
  walk_at "dv"
  simp only [deq_int]
  refine ⟨deqOk_int _ _ _, ?_⟩
  have tac : ∀ (j : Int), 0 ≤ j → j < 9 → dCompL none (cName 11) dYes (dBin gAdd (dVar 4) (dCall gStr (dCons (dBin gMul (dVar 8) (dBin gAdd (dVar 11) (dC (D.int 1)))) dNil)))
      [some (D.ref l), some (D.int k), some (D.str SG), some (D.str stem), some (D.str { cps := #[97 + lc] }), some (D.int o), some (D.int st), some (D.int plan), some (D.int (1 + j)), none, none, none, none, none] (irng 0 k.toNat) [] (M μ l (c' - 1)) fun acc μ2 => (dFn μ Q E).rt (D.lst acc) μ2 := fun j j0 j1 => by
    refine comp_rng (fun i : Nat => D.str ((⟨#[97 + lc]⟩ : Str) ++ Str.ofString (toString ((1 + j) * ((i : Int) + 1))))) (by rw [sizeLine_eq]; omega) (fun i hi K1 k1 => ?_) ?_
    · walk_at "dv"
      have hb : 0 ≤ (1 + j) * ((i : Int) + 1) ∧ (1 + j) * ((i : Int) + 1) < 100 := by
        have : j = 0 ∨ j = 1 ∨ j = 2 ∨ j = 3 ∨ j = 4 ∨ j = 5 ∨ j = 6 ∨ j = 7 ∨ j = 8 := by omega
        rcases this with rfl | rfl | rfl | rfl | rfl | rfl | rfl | rfl | rfl <;> omega
      have hd := dig_str ((1 + j) * ((i : Int) + 1)).toNat (by omega)
      rw [show ((((1 + j) * ((i : Int) + 1)).toNat : Nat) : Int) = (1 + j) * ((i : Int) + 1) from by omega] at hd
      rw [Int.zero_add]
      refine ⟨.inl (by omega), Nat.lt_of_lt_of_le (PySem.Flt.log2_lt_of (k := 7) (by decide) (by omega)) (by decide), ?_, k1⟩
      rw [len_list (Str.ofString _), hd, sizeLine_eq]
      have := digs_len ((1 + j) * ((i : Int) + 1)).toNat
      show 1 + _ ≤ _
      omega
    · have hw := wds_nums (k := k) (lc := lc) (st := 1 + j) hk0 hk8 hlc (by omega) (by omega)
      have := names_end (μ := μ) (l := l) (c' := c' - 1) (Q := Q) (c := c) (k := k) (by omega) (by omega) hw q
      rw [List.map_map] at this
      exact this
  by_cases h4 : plan = 4
  · simp only [h4, decide_true, cond_true]
    subst h4
    exact draw_M hl (by omega) (by decide) (by decide) fun j j0 j1 => ⟨by omega, tac j j0 j1⟩
  · simp only [h4, decide_false, cond_false]
    refine ⟨deqOk_int _ _ _, ?_⟩
    by_cases h5 : plan = 5
    · by_cases h6 : 6 < k
      · simp only [h5, h6, decide_true, cond_true]
        subst h5
        exact draw_M hl (by omega) (by decide) (by decide) fun j j0 j1 => ⟨by omega, tac j j0 j1⟩
      · simp only [h5, h6, decide_true, decide_false, cond_true, cond_false]
        subst h5
        exact names_8 hl hk0 hk8 hc1 hc2 hc3 ha hs hlc ho hst hp (fun z => h6 z.2) q
    · simp only [h5, decide_false, cond_false]
      exact names_8 hl hk0 hk8 hc1 hc2 hc3 ha hs hlc ho hst hp (fun z => h5 z.1) q
theorem names_6 {μ : Mu} {l c c' lc : Nat} {k o st plan : Int} {stem : Str} {Q : D → Mu → Prop} {E : Exn → Mu → Prop} (hl : l < μ.length) (hk0 : 0 ≤ k) (hk8 : k ≤ 8) (hc1 : c' ≤ c) (hc2 : c ≤ c' + 9) (hc3 : 11 ≤ c') (ha : aln stem) (hs : stem.length ≤ 4) (hlc : lc < 26) (ho : 0 ≤ o ∧ o < 26)
    (hst : st = 1 ∨ st = 3 ∨ st = 5 ∨ st = 7 ∨ st = 9 ∨ st = 11) (hp : 0 ≤ plan ∧ plan < 7) (q : ∀ c' ws, c' ≤ c → c ≤ c' + 20 → Wds k.toNat ws → Q (.lst (ws.map .str)) (μ.set l (.orc (c', true)))) :
    t_names_6 (dFn μ Q E) [some (.ref l), some (.int k), some (.str SG), some (.str stem), some (.str ⟨#[97 + lc]⟩), some (.int o), some (.int st), some (.int plan), none, none, none, none, none, none] (M μ l c') := by
  unfold t_names_6
  walk_at "dv"
  simp only [deq_int]
  refine ⟨deqOk_int _ _ _, ?_⟩
  by_cases h6 : plan = 6 ∧ k < 7
  · simp only [h6.1, h6.2, decide_true, cond_true]
    refine ⟨by decide, ?_⟩
    simp only [cut_to _ hk0]
    have e : List.take k.toNat [D.str (Str.ofString "rows"), D.str (Str.ofString "leaf"), D.str (Str.ofString "x"), D.str (Str.ofString "x1"), D.str (Str.ofString "x10"), D.str (Str.ofString "none")] = ((["rows", "leaf", "x", "x1", "x10", "none"] : List Str).take k.toNat).map D.str := by rw [List.map_take]; rfl
    rw [e]
    refine names_end hc1 (by omega) ⟨?_, nodupC.nd.sublist (List.take_sublist _ _), fun w hw => nodupC.ok w (List.mem_of_mem_take hw)⟩ q
    rw [List.length_take]
    simp
    omega
  · have t7 := names_7 (E := E) hl hk0 hk8 hc1 hc2 hc3 ha hs hlc ho hst hp q
    by_cases h7 : plan = 6
    · have h8 : ¬ k < 7 := fun z => h6 ⟨h7, z⟩
      simp only [h7, h8, decide_true, decide_false, cond_true, cond_false]
      subst h7
      exact t7
    · simp only [h7, decide_false, cond_false]
      exact t7
theorem rd_names {n1 n2 n3 n4 n5 n6 n7 n8 n9 n10 n11 n12 n13 n14 : Str} : ∀ ds μ Q E, S_names ds μ Q E → t_names (dFn μ Q E) (start0 [n1, n2, n3, n4, n5, n6, n7, n8, n9, n10, n11, n12, n13, n14] ds) μ := by
  rintro ds μ Q E ⟨l, c, k, rfl, hc, hc2, hk0, hk8, q⟩
  have hl := orc_lt hc
  rw [show t_names (dFn μ Q E) = t_names (dFn μ Q E) from rfl]
  have e0 : t_names (dFn μ Q E) (start0 [n1, n2, n3, n4, n5, n6, n7, n8, n9, n10, n11, n12, n13, n14] [.ref l, .int k]) (M μ l c) → t_names (dFn μ Q E) (start0 [n1, n2, n3, n4, n5, n6, n7, n8, n9, n10, n11, n12, n13, n14] [.ref l, .int k]) μ := fun h => by rw [M_id hc] at h; exact h
  refine e0 ?_
  unfold t_names
  walk_at "dv"
  unfold t_names_1
  walk_at "dv"
  refine ⟨⟨_, rfl⟩, draw_M hl (by omega) (by decide) (by decide) fun j j0 j1 => ?_⟩
  dsimp only
  refine ⟨by omega, comp_sg hl (by omega) (by omega) rfl rfl fun ts h1 h2 => ?_⟩
  simp only [lk, strD_map]
  have o1 : ∀ t ∈ ts, t.length = 1 := fun t ht => (h2 t ht).2
  refine ⟨by rw [sum_ones o1, show (Str.ofString "").length = 0 from by decide +kernel]; omega, ?_⟩
  have hst : aln (Txt.join (Str.ofString "") ts) := aln_join fun t ht => (h2 t ht).1
  have hsl : (Txt.join (Str.ofString "") ts).length ≤ 4 := by rw [len_join o1]; omega
  generalize Txt.join (Str.ofString "") ts = stem at hst hsl ⊢
  unfold t_names_2
  walk_at "dv"
  refine draw_M hl (by omega) (by decide) (by decide) fun i i0 i1 => ?_
  rw [show (Str.ofString "abcdefghijklmnopqrstuvwxyz0123456789") = SG from rfl]
  dsimp only
  rw [sg_let i0 i1]
  refine ⟨by rw [sg_len, sizeLine_eq]; omega, ?_⟩
  unfold t_names_3
  walk_at "dv"
  refine draw_M hl (by omega) (by decide) (by decide) fun o o0 o1 => ?_
  unfold t_names_4
  walk_at "dv"
  refine ⟨by rw [sizeLine_eq]; omega, draw_M hl (by omega) (by decide) (by decide) fun u u0 u1 => ?_⟩
  obtain ⟨st, e1, e2⟩ := menu6 u0 u1
  dsimp only
  simp only [e1]
  unfold t_names_5
  walk_at "dv"
  refine draw_M hl (by omega) (by decide) (by decide) fun pl p0 p1 => ?_
  exact names_6 (lc := i.toNat) hl hk0 hk8 (by omega) (by omega) (by omega) hst hsl (by omega) ⟨o0, o1⟩ e2 ⟨p0, p1⟩ q
end DV
/-! Sets of outcomes: all_sets, is_set, others; the law's own. -/
namespace DV
open PySem PySem.Spec PyProof.Rows L2
abbrev tupS (l : List Str) : D := .tup (l.map .str)
def subs (xs : List Str) : List (List Str) := xs.foldl (fun f x => f ++ f.map (· ++ [x])) [[]]
def key_set_rank (d : D) : D := match d with
  | .tup l => .tup [.int l.length, .tup l]
  | _ => d
def setsD (xs : List Str) : List D := sortBy key_set_rank ((subs xs).map tupS)
def sortS (xs : List Str) : List Str := xs.mergeSort fun a b => leBy id (.str a) (.str b)
theorem sortS_perm (xs : List Str) : (sortS xs).Perm xs := List.mergeSort_perm _ _
/-! all_sets -/
structure Okp (n : Nat) (xs : List Str) : Prop where
  len : xs.length ≤ n
  ok : ∀ x ∈ xs, asc x
  sl : ∀ x ∈ xs, x.length ≤ 100
theorem inF_strs (x : Str) (us : List Str) : inF (.str x) (us.map .str) = decide (x ∈ us) := by
  unfold inF
  induction us with
  | nil => simp
  | cons u us ih =>
    rw [List.map_cons, List.any_cons, ih]
    show ((u == x) || _) = _
    by_cases h : x = u
    · subst h; simp
    · have : (u == x) = false := by simp [Ne.symm h]
      rw [this]; simp [h]
theorem flat_strs' (us : List Str) : (us.map D.str).all D.flat = true := by
  rw [List.all_map, List.all_eq_true]; intro x _; rfl
end DV
/-! Sets of texts whose table can be walked: new, add, sorted. -/
namespace DV
open PySem PySem.Spec PyProof.Rows L2 PySem.Froz
def SetT (P : Program) (w : World) (h : Heap) (a : Addr) (l : List Str) : Prop :=
  ∃ Dd : SD, h.get? a = some (sObj "set" Dd) ∧ TxOk P w Dd l ∧ l.Nodup ∧ l.length < scanBound ∧ Ris Dd.2.2.place.toList ∧ (w.params.followText "set-order" = true ∨ Dd.2.2.led = true)
section
variable {P : Program} {w : World} {A : Around} {E : Value → Shared → Prop} {s : Shared} {a : Addr} {l : List Str}
theorem SetT.keep {h h' : Heap} (r : SetT P w h a l) (k : ∀ o, h.get? a = some o → h'.get? a = some o) : SetT P w h' a l := by
  obtain ⟨Dd, h1, h2⟩ := r
  exact ⟨Dd, k _ h1, h2⟩
end
/-! ### sorted -/
theorem le_strs (a b : Str) : leBy id (.str a) (.str b) = decide (a.cps.toList ≤ b.cps.toList) := congrFun (congrFun (PySem.W.dataLe_str (fun d : Str => d)) a) b
theorem le_total : PySem.W.TotalLe fun a b : Str => leBy id (.str a) (.str b) where
  trans := fun a b c h1 h2 => by
    rw [le_strs] at *
    exact decide_eq_true (List.le_trans (of_decide_eq_true h1) (of_decide_eq_true h2))
  total := fun a b => by
    rw [le_strs, le_strs]
    rcases List.le_total a.cps.toList b.cps.toList with h | h
    · exact .inl (decide_eq_true h)
    · exact .inr (decide_eq_true h)
end DV
/-! More rules: lists made by * as cells, insert, max of two, pairs as targets, dicts by keys. -/
namespace DV
open PySem PySem.Spec PyProof.Rows L2
section
variable {X : Cx} {W : WX} {a b o e e2 tg : Expr} {pos p apos : Pos} {fa fb fc : DTE}
def gMulM : G2 := fun x y μ Q => match lk μ x, lk μ y with
  | .lst i, .int k => (-(2 ^ 63) ≤ k ∧ k < 2 ^ 63 ∧ i.length * k.toNat ≤ sizeLine) ∧ Q (.ref μ.length) (μ ++ [.lst (List.replicate k.toNat i).flatten])
  | _, _ => False
def gMax2 : GN := fun ds μ Q => match ds with
  | [.int i, .int j] => Q (.int (if j > i then j else i)) μ
  | _ => False
/-! ### a pair as a target -/
def dPair (i j : Nat) : DTG := fun d Γ μ Q _ => match d with
  | .tup [x, y] => Q ((Γ.set i (some x)).set j (some y)) μ
  | _ => False
theorem dg_pair {i j : Nat} (h : PG X tg (L2.gTup X.K 2 (gCons (gName i) (gCons (gName j) gNil)))) : DG X W tg (dPair i j) := PG.imp h fun v σ H Q ⟨n, d, Γ, μ, Qd, Ed, hH, sr, gr, rp, h, hq, hx⟩ => by
  subst hH
  unfold dPair at h
  split at h
  · rename_i x y
    cases rp with
    | tup h1 h2 =>
      cases h2 with
      | cons p1 r1 =>
        cases r1 with
        | cons p2 r2 =>
          cases r2
          refine ⟨_, _, rfl, SqT.of (sr.same _ _ h1), rfl, _, _, rfl, _, _, rfl, rfl, ?_⟩
          exact hq n _ _ μ (Step.refl n) sr ((gr.set p1 i).set p2 j) h
  · exact h.elim
/-! ### dicts by keys -/
def valD (kvs : List (Key × D)) (k : Key) : Option D := (kvs.find? fun kv => decide (kv.1 = k)).map (·.2)
theorem valD_pos {p : Key × D} {r : List (Key × D)} {k : Key} (e : p.1 = k) : valD (p :: r) k = some p.2 := by simp [valD, List.find?_cons, e]
theorem valD_neg {p : Key × D} {r : List (Key × D)} {k : Key} (e : ¬ p.1 = k) : valD (p :: r) k = valD r k := by simp [valD, List.find?_cons, e]
theorem repk_val {K : PySem.W.Frag} {Hb : Hp} {al : List Addr} : ∀ {kvs : List (Key × D)} {us : List (Key × V)} {k : Key}, RepK K Hb al us kvs → (∀ d, valD kvs k = some d → ∃ v, valV us k = some v ∧ Rep K Hb al v d) ∧ (valD kvs k = none → valV us k = none) := fun {kvs us k} h => by
  obtain ⟨h1, h2⟩ := h
  induction kvs generalizing us with
  | nil =>
    cases us with
    | nil => exact ⟨fun d e => (by cases e), fun _ => rfl⟩
    | cons u us => simp at h1
  | cons c kvs ih =>
    cases us with
    | nil => simp at h1
    | cons u us =>
      obtain ⟨kc, dc⟩ := c
      obtain ⟨ku, vu⟩ := u
      simp only [List.map_cons, List.cons.injEq] at h1
      obtain ⟨rfl, h1⟩ := h1
      cases h2 with
      | cons r1 r2 =>
        obtain ⟨i1, i2⟩ := ih h1 r2
        by_cases e : kc = k
        · rw [valD_pos e, valV_pos e]
          exact ⟨fun d z => ⟨vu, rfl, (by cases z; exact r1)⟩, fun z => (by cases z)⟩
        · rw [valD_neg e, valV_neg e]
          exact ⟨i1, i2⟩
def gDGet : G2 := fun x y μ Q => match lk μ x, keyOfD y with
  | .dct kvs, some k => (match valD kvs k with | some d => Q d μ | none => False)
  | _, _ => False
theorem key_rep {K : PySem.W.Frag} {Hb : Hp} {al : List Addr} {y : V} {dy : D} {k : Key} (r : Rep K Hb al y dy) (h : keyOfD dy = some k) : y = kV k := by
  cases r <;> first | cases h | skip
  all_goals rfl
theorem de_dget (hu : X.A.units + 1 < cLine) (ha : DE X W a fa) (hb : DE X W b fb) (hs : NoSl b := by exact fun _ _ => rfl) : DE X W (.Subscript a b pos) (dBin gDGet fa fb) := PE.imp (pe_dget hu ha hb hs) fun σ H Q ⟨n, Γ, μ, Qd, Ed, hH, sr, gr, h, hq, hx⟩ => by
  subst hH
  refine lift_go sr gr h (fun n1 x dx μ1 s1 r1 p1 q1 => lift_go r1 (gr.step s1) q1 (fun n2 y dy μ2 s2 r2 p2 q2 => ?_) (hx.step s1)) hx
  unfold gDGet at q2
  split at q2
  · rename_i kvs k e1 e2
    obtain ⟨c, us, rfl, h1, h2, h3⟩ := see_dct r2 (s2.rep p1) e1
    have hk := key_rep p2 e2
    subst hk
    split at q2
    · rename_i d e3
      obtain ⟨v, g1, g2⟩ := (repk_val ⟨h2, h3⟩).1 d e3
      exact ⟨c, v, rfl, g1 ▸ .inl ⟨us, k, h1, rfl, rfl⟩, hq n2 v d μ2 (s1.trans s2) r2 g2 q2⟩
    · exact q2.elim
  · exact q2.elim
def gDIn (neg : Bool) : G2 := fun y x μ Q => match lk μ x, keyOfD y with
  | .dct kvs, some k => Q (.bl (if neg then !(valD kvs k).isSome else (valD kvs k).isSome)) μ
  | _, _ => False
theorem sm_val {K : PySem.W.Frag} {Hb : Hp} {al : List Addr} {kvs : List (Key × D)} {us : List (Key × V)} {k : Key} (h : RepK K Hb al us kvs) : (valV us k).isSome = (valD kvs k).isSome := by
  obtain ⟨h1, h2⟩ := repk_val (k := k) h
  cases e : valD kvs k with
  | none => rw [h2 e]; rfl
  | some d => obtain ⟨v, g, _⟩ := h1 d e; rw [g]; rfl
/-! d[k] = v -/
def dSetD (fo fi : DTE) : DTG := fun d Γ μ Q E => fo Γ μ (fun x μ1 => fi Γ μ1 (fun i μ2 => match x, keyOfD i with
  | .ref l, some k => (match μ2[l]? with
    | some (.dct kvs) => kvs.length < sizeLine ∧ Q Γ (μ2.set l (.dct (putKD kvs k d)))
    | _ => False)
  | _, _ => False) E) E
theorem dg_setD {i : Expr} (h : PG X (.Subscript o i pos) (gSub (lift X.K W fa) (lift X.K W fb) rSetD)) : DG X W (.Subscript o i pos) (dSetD fa fb) := PG.imp h fun v σ H Q ⟨n, d, Γ, μ, Qd, Ed, hH, sr, gr, rp, h, hq, hx⟩ => by
  subst hH
  refine lift_go sr gr h (fun n1 x dx μ1 s1 r1 p1 q1 => lift_go r1 (gr.step s1) q1 (fun n2 y dy μ2 s2 r2 p2 q2 => ?_) (hx.step s1)) hx
  split at q2
  · rename_i l k e1
    cases p1 with
    | @ref _ c hl =>
      have hk := key_rep p2 e1
      subst hk
      split at q2
      · rename_i kvs e
        have hl2 := pre_get s2.pre hl
        obtain ⟨hb, us, g1, g2, g3⟩ := r2.cell _ _ _ hl2 e
        have hlen : kvs.length = us.length := len_of_maps (δ := Nat) g2
        obtain ⟨z1, z2⟩ := RepK.put (k := k) ⟨g2, g3⟩ ((s1.trans s2).rep rp)
        refine ⟨c, _, rfl, DPut.k g1 (by rw [← hlen]; exact q2.1), ?_⟩
        exact hq (n2.more c (.dK (putK us k v))) Γ σ _ ((s1.trans s2).trans (Step.write hl2)) (r2.write hl2 hb (c := .dct (putKD kvs k d)) ⟨hb, _, upd_same, z1, z2⟩ (fun k z => by cases z)) ((gr.step (s1.trans s2)).step (Step.write hl2)) q2.2
      · exact q2.elim
  · exact q2.elim
/-! {} -/
def dDict0 : DTE := fun _ μ Q _ => Q (.ref μ.length) (μ ++ [.dct []])
theorem de_dict0 : DE X W (.Dict [] [] pos) dDict0 := PE.imp pe_dnewK fun σ H Q ⟨n, Γ, μ, Qd, Ed, hH, sr, gr, h, hq, hx⟩ => by
  subst hH
  intro p hp
  refine hq (n.cell p (.dK [])) _ (.ref μ.length) (μ ++ [.dct []]) (Step.cell hp) (sr.cellN (c := .dct []) hp ⟨sr.hb hp, [], upd_same, rfl, .nil⟩ (fun k z => by cases z)) (.ref ?_) (show Qd (.ref μ.length) (μ ++ [Cell.dct []]) from h)
  show (n.al ++ [p])[μ.length]? = some p
  rw [← sr.len]
  simp
/-! truth -/
end
end DV
/-! Comprehensions with two for. -/
namespace DV
open PySem PySem.Spec PyProof.Rows L2
def dCompO (src : Option (Nat × List D)) (g : D → Gam → Mu → (Gam → Prop) → Prop) (fi1 : DTI) (g1 : D → Gam → Mu → (Gam → Prop) → Prop) (tt1 : DTT) (te : DTE) (vs1 : List Nat) (Γ : Gam) : List D → List D → Mu → (List D → Mu → Prop) → Prop
  | [], acc, μ, Q => Gd src μ ∧ Q acc μ
  | d :: ds, acc, μ, Q => Gd src μ ∧ g d Γ μ fun Γ1 => fi1 Γ1 μ (fun src1 ds1 μ1 => dCompL src1 g1 tt1 te (wipeG Γ1 vs1) ds1 acc μ1 fun acc2 μ2 => dCompO src g fi1 g1 tt1 te vs1 Γ ds acc2 μ2 Q) fun _ _ => False
def dComp2 (fz : Bool) (vs vs1 : List Nat) (fi : DTI) (g : D → Gam → Mu → (Gam → Prop) → Prop) (fi1 : DTI) (g1 : D → Gam → Mu → (Gam → Prop) → Prop) (tt1 : DTT) (te : DTE) : DTE := fun Γ μ Q E => fi Γ μ (fun src ds μ1 => dCompO src g fi1 g1 tt1 te vs1 (wipeG Γ vs) ds [] μ1 fun acc μ2 => dFin fz acc μ2 Q) E
theorem GR.sp {K : PySem.W.Frag} {n n' : Now} {Γ : Gam} {σ : L2.St} (g : GR K n Γ σ) (s : SP n n') : GR K n' Γ σ := ⟨g.len, fun i d h => let ⟨v, h1, h2⟩ := g.at_ i d h; ⟨v, h1, s.rep h2⟩⟩
end DV
/-! {e for x in xs for y in ys} of texts, sorted. -/
namespace DV
open PySem PySem.Spec PyProof.Rows L2
def addS (l : List Str) (k : Str) : List Str := if k ∈ l then l else k :: l
/-! ### the comprehension: two clauses without tests -/
/-! an iterator between two turns -/
end DV
/-! sorted({e for x in xs for y in ys}) of texts, deep. -/
namespace DV
open PySem PySem.Spec PyProof.Rows L2
def dScL (src : Option (Nat × List D)) (g : D → Gam → Mu → (Gam → Prop) → Prop) (te : DTE) (Γ : Gam) : List D → List Str → Mu → (List Str → Mu → Prop) → Prop
  | [], acc, μ, Q => Gd src μ ∧ Q acc μ
  | d :: ds, acc, μ, Q => Gd src μ ∧ g d Γ μ fun Γ1 => te Γ1 μ (fun y μ2 => match y with | .str z => acc.length + 1 < scanBound ∧ dScL src g te Γ ds (addS acc z) μ2 Q | _ => False) fun _ _ => False
def dScO (src : Option (Nat × List D)) (g : D → Gam → Mu → (Gam → Prop) → Prop) (fi1 : DTI) (g1 : D → Gam → Mu → (Gam → Prop) → Prop) (te : DTE) (vs1 : List Nat) (Γ : Gam) : List D → List Str → Mu → (List Str → Mu → Prop) → Prop
  | [], acc, μ, Q => Gd src μ ∧ Q acc μ
  | d :: ds, acc, μ, Q => Gd src μ ∧ g d Γ μ fun Γ1 => fi1 Γ1 μ (fun src1 ds1 μ1 => dScL src1 g1 te (wipeG Γ1 vs1) ds1 acc μ1 fun acc2 μ2 => dScO src g fi1 g1 te vs1 Γ ds acc2 μ2 Q) fun _ _ => False
def dSortSC (fz : Bool) (vs vs1 : List Nat) (fi : DTI) (g : D → Gam → Mu → (Gam → Prop) → Prop) (fi1 : DTI) (g1 : D → Gam → Mu → (Gam → Prop) → Prop) (te : DTE) : DTE := fun Γ μ Q E => fi Γ μ (fun src ds μ1 => dScO src g fi1 g1 te vs1 (wipeG Γ vs) ds [] μ1 fun acc μ2 => dFin fz ((sortS acc).map .str) μ2 Q) E
end DV
/-! Own classes as callers see them. -/
namespace DV
open PySem PySem.Spec PyProof.Rows L2
/-- the classes' places: Table, Wishes, Unrest, Round, Verdict, Book, Power, Tree -/
structure Cs where
  T : Addr := 0
  W : Addr := 0
  U : Addr := 0
  R : Addr := 0
  V : Addr := 0
  B : Addr := 0
  P : Addr := 0
  E : Addr := 0
def HasI (P : Program) (w : World) (K : PySem.W.Frag) (mg : Str → Option Value) (base : Heap) (C : Addr) (x : Str) (k : Nat) (ps : List Str) (S : DSp) : Prop :=
  ∃ f fd, mg x = some (.ref C) ∧ Mk K C f ∧ Binds K fd ps [] ∧ FnOk P w K mg base (L2.CX P w) k f fd ps (spOf K S)
def HasM (P : Program) (w : World) (K : PySem.W.Frag) (mg : Str → Option Value) (base : Heap) (C : Addr) (m : Str) (k : Nat) (ps : List Str) (S : DSp) : Prop :=
  ∃ f fd, Meth K C m f ∧ Binds K fd ps [] ∧ FnOk P w K mg base (L2.CX P w) k f fd ps (spOf K S)
def HasP (P : Program) (w : World) (K : PySem.W.Frag) (mg : Str → Option Value) (base : Heap) (C : Addr) (m : Str) (k : Nat) (ps : List Str) (S : DSp) : Prop :=
  ∃ p f fd, PropOf K C m p f ∧ Binds K fd ps [] ∧ FnOk P w K mg base (L2.CX P w) k f fd ps (spOf K S)
def HasX (P : Program) (w : World) (K : PySem.W.Frag) (mg : Str → Option Value) (base : Heap) (C : Addr) (k : Nat) (ps : List Str) (S : DSp) : Prop :=
  ∃ f fd, PySem.W.findIn K (.ref C) "__getitem__" = some (some (.ref f)) ∧ PySem.W.fnIn K f = true ∧ PySem.W.isFn K (.ref f) = true ∧ Binds K fd ps [] ∧ FnOk P w K mg base (L2.CX P w) k f fd ps (spOf K S)
section
variable {X : Cx} {W : WX} {o e i : Expr} {es : List Expr} {m x : Str} {p pos apos : Pos} {fo fi : DTE} {fr : DTA} {C : Addr} {k : Nat} {ps : List Str} {S : DSp}
theorem de_methH {pl : Sem Bool} (c : Cls X.K C) (h : HasM X.prog X.w X.K X.mg X.base C m k ps S) (hr : Room k X.A) (tk : Takes X W) (ho : DE X W o fo) (ha : DA X W (e :: es) fr)
    (hst : starEach (e :: es) X.env = (false, eval e X.env) :: starEach es X.env := by rfl) (hpl : (backTo pos (starEach es X.env)).any (·.1) = false := by rfl)
    (ht : eval (.Call (.Attribute o m apos) (e :: es) [] pos) X.env = (do let ov ← eval o X.env; standAt apos.atName; let (f, first) ← holding [ov] (getMethod ov m pl); callWith pos f first (backTo pos (starEach (e :: es) X.env)) (backToKw pos (keywordEach [] X.env))) := by rfl) :
    DE X W (.Call (.Attribute o m apos) (e :: es) [] pos) (dMethod C m S fo fr) := by
  obtain ⟨f, fd, h1, h2, h3⟩ := h
  exact de_meth c h1 h3 hr h2 tk ho ha hst hpl ht
theorem de_meth0H {pl : Sem Bool} (c : Cls X.K C) (h : HasM X.prog X.w X.K X.mg X.base C m k ps S) (hr : Room k X.A) (tk : Takes X W) (ho : DE X W o fo)
    (ht : eval (.Call (.Attribute o m apos) [] [] pos) X.env = (do let ov ← eval o X.env; standAt apos.atName; let (f, first) ← holding [ov] (getMethod ov m pl); callWith pos f first (backTo pos (starEach [] X.env)) (backToKw pos (keywordEach [] X.env))) := by rfl) :
    DE X W (.Call (.Attribute o m apos) [] [] pos) (dMethod C m S fo dNil) := by
  obtain ⟨f, fd, h1, h2, h3⟩ := h
  exact de_meth0 c h1 h3 hr h2 tk ho ht
theorem de_propH (c : Cls X.K C) (h : HasP X.prog X.w X.K X.mg X.base C m k ps S) (hr : Room (k + 1) X.A) (he : DE X W e fo) (hab : attributeBase e m X.env (eval e X.env) = eval e X.env := by rfl) : DE X W (.Attribute e m pos) (dProp C S fo) := by
  obtain ⟨pr, f, fd, h1, h2, h3⟩ := h
  exact de_prop c h1 h3 hr h2 he hab
theorem de_ownixH (h : HasX X.prog X.w X.K X.mg X.base C k ps S) (hr : Room (k + 1) X.A) (tk : Takes X W) (ho : DE X W o fo) (hi : DE X W i fi) (hsl : ∀ x j, subscripted i true (.ref x) j = runValue (.builtin "lifetime.subscript" ⟨[.ref x, j], []⟩) := by intros; with_unfolding_all rfl) : DE X W (.Subscript o i pos) (dOwnIx C S fo fi) := by
  obtain ⟨f, fd, h1, h2, h3, h4, h5⟩ := h
  exact de_ownix h1 h2 h3 h5 hr h4 tk ho hi hsl
end
end DV
/-! The oracle of the second kind: _law_start, _law_take. -/
namespace DV
open PySem PySem.Spec PyProof.Rows L2
structure StB (μ : Mu) (l l0 : Nat) (j k : Int) (xs : List Int) : Prop where
  c : μ[l]? = some (.lst [.ref l0, .int j, .int k])
  c0 : μ[l0]? = some (.lst (xs.map .int))
  n0 : l ≠ l0
theorem ixN_nat {n : Nat} {i : Int} (h0 : 0 ≤ i) (h1 : i < n) : ixN n i = some i.toNat := by
  unfold ixN
  rw [if_pos h0, if_pos (by omega)]
section
variable {μ : Mu} {l l0 : Nat} {j k : Int} {xs : List Int}
theorem StB.ix0 (h : StB μ l l0 j k xs) (Q : D → Mu → Prop) : gIx (.ref l) (.int 0) μ Q = Q (.ref l0) μ := by
  unfold gIx; rw [lk_cell h.c]; rfl
theorem StB.ix1 (h : StB μ l l0 j k xs) (Q : D → Mu → Prop) : gIx (.ref l) (.int 1) μ Q = Q (.int j) μ := by
  unfold gIx; rw [lk_cell h.c]; rfl
theorem StB.ix2 (h : StB μ l l0 j k xs) (Q : D → Mu → Prop) : gIx (.ref l) (.int 2) μ Q = Q (.int k) μ := by
  unfold gIx; rw [lk_cell h.c]; rfl
theorem StB.put (h : StB μ l l0 j k xs) (j' k' : Int) : StB (μ.set l (.lst [.ref l0, .int j', .int k'])) l l0 j' k' xs :=
  ⟨by rw [List.getElem?_set_self (List.getElem?_eq_some_iff.mp h.c).1], by rw [List.getElem?_set_ne h.n0]; exact h.c0, h.n0⟩
end
/-- a draw, as the law's defs see it: any number below the limit; the oracle has one draw less -/
def S_take : DSp := fun ds μ Q _ => ∃ l n m, ds = [.ref l, .int m] ∧ μ[l]? = some (.orc (n + 1, false)) ∧ 0 < m ∧ m.natAbs.log2 < 9000 ∧ ∀ d, 0 ≤ d → d < m → Q (.int d) (μ.set l (.orc (n, false)))
theorem get_app1_lt {α : Type} {l : List α} {x z : α} {i : Nat} (h : (l ++ [x])[i]? = some z) : (i < l.length ∧ l[i]? = some z) ∨ (i = l.length ∧ z = x) := by
  by_cases hi : i < l.length
  · rw [List.getElem?_append_left hi] at h; exact .inl ⟨hi, h⟩
  · have hl := (List.getElem?_eq_some_iff.mp h).1
    simp at hl
    have h2 : i = l.length := by omega
    subst h2; simp at h; exact .inr ⟨rfl, h.symm⟩
/-! the start -/
end DV
/-! The head by facts: defs of the top, methods, getters of properties; the end of a law over it. -/
namespace DV
open PySem PySem.Spec PyProof.Rows L2
inductive At where
  | glo (x : Str) | meth (C m : Str) | prop (C f : Str) | ali (x y : Str)
def propA (K : PySem.W.Frag) (C : Addr) (f : Str) : Addr := match PySem.W.findIn K (.ref C) f with
  | some (some (.ref p)) => p
  | _ => 0
def getA (K : PySem.W.Frag) (p : Addr) : Addr := match PySem.W.recIn K p "property" with
  | some (.ref g :: _) => g
  | _ => (match PySem.W.recIn K p "classmethod" with
    | some (.ref g :: _) => g
    | _ => 0)
def At.ad (K : PySem.W.Frag) : At → Addr
  | .glo x => He.ga K x
  | .meth C m => He.ma K (He.ga K C) m
  | .prop C f => getA K (propA K (He.ga K C) f)
  | .ali x _ => He.ga K x
def At.name : At → Str
  | .glo x => x
  | .meth _ m => m
  | .prop _ f => f
  | .ali _ y => y
/-- a def: where it stands, its qualified name, its statement -/
structure DefA where
  at_ : At
  qual : Str
  st : Stmt
def DefA.obs (K : PySem.W.Frag) (d : DefA) : He.FnV := match K.lookup (d.at_.ad K) with
  | some ⟨_, _, .func fd, _⟩ => some (fd.name, fd.qualname, fd.params, fd.body, fd.scope, fd.globals, fd.closure, fd.defaults, fd.builtins)
  | _ => none
def DefA.val (d : DefA) : He.FnV := some (d.at_.name, d.qual, defArgs d.st, .stmts (defBody d.st), defScope d.st, mainGlobals, [], .none, builtinsNs)
def DefA.ok (K : PySem.W.Frag) (d : DefA) : Bool := PySem.W.keepIn K (.ref (d.at_.ad K)) && (match K.lookup (d.at_.ad K) with
  | some ⟨_, _, .func fd, _⟩ => PySem.W.codeIn K fd.code d.qual
  | _ => false)
theorem DefA.fun_ {K : PySem.W.Frag} {d : DefA} (e : d.obs K = d.val) (c : d.ok K = true) : ∃ fd, Fun K d.at_.name d.qual d.st (d.at_.ad K) fd := by
  obtain ⟨kp, c2⟩ := He.ba c
  unfold DefA.obs at e
  cases q : K.lookup (d.at_.ad K) with
  | none =>
    rw [q] at c2
    cases c2
  | some o =>
    obtain ⟨oc, od, dt, osl⟩ := o
    rw [q] at c2 e
    cases dt with
    | func fd =>
      obtain ⟨n1, n2, n3, n4, n5, n6, n7, n8, n9, n10, n11, n12, n13, n14, n15⟩ := fd
      have e2 : (some (n1, n2, n3, n4, n5, n6, n7, n8, n15) : He.FnV) = some (d.at_.name, d.qual, defArgs d.st, .stmts (defBody d.st), defScope d.st, mainGlobals, [], .none, builtinsNs) := e
      simp only [Option.some.injEq, Prod.mk.injEq] at e2
      obtain ⟨h1, h2, h3, h4, h5, h6, h7, h8, h9⟩ := e2
      subst h1 h2 h3 h4 h5 h6 h7 h8 h9
      exact ⟨_, fun_mk q c2 kp⟩
    | _ => cases c2
def propB (C f : Str) (K : PySem.W.Frag) : Bool := He.eqO (PySem.W.findIn K (.ref (He.ga K C)) f) (some (some (.ref (propA K (He.ga K C) f)))) && (He.eqO (PySem.W.specialIn K (.ref (propA K (He.ga K C) f)) "__get__") (some (some (.builtin "property.__get__"))) &&
  (decide (PySem.W.takesIn K (.ref (propA K (He.ga K C) f)) = some true) && (match PySem.W.recIn K (propA K (He.ga K C) f) "property" with
    | some (.ref _ :: _) => true
    | _ => false)))
theorem propB_ok {C f : Str} {K : PySem.W.Frag} (h : propB C f K = true) : PropOf K (He.ga K C) f (propA K (He.ga K C) f) ((At.prop C f).ad K) := by
  obtain ⟨h1, h⟩ := He.ba h
  obtain ⟨h2, h⟩ := He.ba h
  obtain ⟨h3, h4⟩ := He.ba h
  refine ⟨He.eqO_ok h1, He.eqO_ok h2, of_decide_eq_true h3, ?_⟩
  show ∃ rest, PySem.W.recIn K (propA K (He.ga K C) f) "property" = some (.ref (getA K (propA K (He.ga K C) f)) :: rest)
  unfold getA
  split at h4
  · rename_i g rest e
    rw [e]
    exact ⟨rest, rfl⟩
  · cases h4
def fnB (C m : Str) (K : PySem.W.Frag) : Bool := PySem.W.fnIn K (He.ma K (He.ga K C) m)
/-- what is looked at: the globals named, their codes, the classes' dicts and bases, the methods and getters named, and their codes -/
def refsS (o : Obj) : List Addr := match o.data with
  | .func fd => He.refV fd.code
  | .cls cd => cd.ns :: cd.mro.flatMap He.refV
  | _ => []
def behind (g : Addr → Option Obj) (as : List Addr) : List Addr := as.flatMap fun a => match g a with
  | some o => refsS o
  | none => []
/-- forced: each address a numeral -/
def forced : List Addr → (List Addr → List Addr) → List Addr
  | [], k => k []
  | 0 :: r, k => forced r fun r => k (0 :: r)
  | (n + 1) :: r, k => forced r fun r => k ((n + 1) :: r)
structure Names where
  gl : List Str
  me : List (Str × Str)
  pr : List (Str × Str)
def asS (N : Names) (g : Addr → Option Obj) : List Addr :=
  forced (N.gl.map (He.ga (He.frG g [mainGlobals]))) fun a1 => forced (behind g a1) fun a2 =>
  forced (N.me.map fun p => He.ma (He.frG g (mainGlobals :: (a1 ++ a2))) (He.ga (He.frG g [mainGlobals]) p.1) p.2) fun a3 =>
  forced (N.pr.map fun p => propA (He.frG g (mainGlobals :: (a1 ++ a2))) (He.ga (He.frG g [mainGlobals]) p.1) p.2) fun a4 =>
  forced (a4.map fun p => getA (He.frG g [p]) p) fun a5 => forced (behind g (a3 ++ a5)) fun a6 => mainGlobals :: cStatics :: (a1 ++ (a2 ++ (a3 ++ (a4 ++ (a5 ++ a6)))))
abbrev AlA : Type := Bool × List He.FnV
def obsA (fa : List He.Fa) (ex : List (PySem.W.Frag → Bool)) (fn : List DefA) (K : PySem.W.Frag) : AlA := ((fa.all fun f => f.ok K) && ((ex.all fun f => f K) && fn.all fun d => d.ok K), fn.map fun d => d.obs K)
def valA (fn : List DefA) : AlA := (true, fn.map DefA.val)
def SaysA (fa : List He.Fa) (ex : List (PySem.W.Frag → Bool)) (fn : List DefA) (K : PySem.W.Frag) : Prop := obsA fa ex fn K = valA fn
def obsAG (n : Names) (fa : List He.Fa) (ex : List (PySem.W.Frag → Bool)) (fn : List DefA) (g : Addr → Option Obj) : AlA := obsA fa ex fn (He.frG g (asS n g))
def hookA (n : Names) (fa : List He.Fa) (ex : List (PySem.W.Frag → Bool)) (fn : List DefA) : PySem.W.Hook where
  α := AlA
  obs := fun s => obsAG n fa ex fn s.heap.get?
  val := fun _ => valA fn
  says := fun _ h => ∃ K : PySem.W.Frag, K.In h ∧ SaysA fa ex fn K
  of := fun _ _ e => ⟨_, He.frG_in, e⟩
  keeps := fun _ _ _ ⟨K, hK, c⟩ k => ⟨K, PySem.W.Frag.In.keeps hK k, c⟩
theorem obsAG_eq {n : Names} {fa : List He.Fa} {ex : List (PySem.W.Frag → Bool)} {fn : List DefA} {g : Addr → Option Obj} {s : Shared} (h : ∀ a, g a = s.heap.get? a) : obsAG n fa ex fn g = (hookA n fa ex fn).obs s := by
  have e : g = s.heap.get? := funext h
  rw [e] <;> rfl
section
variable {fa : List He.Fa} {ex : List (PySem.W.Frag → Bool)} {fn : List DefA} {K : PySem.W.Frag}
theorem SaysA.all (c : SaysA fa ex fn K) : (fa.all fun f => f.ok K) = true ∧ (ex.all fun f => f K) = true ∧ (fn.all fun d => d.ok K) = true := by
  obtain ⟨c1, c2⟩ := He.ba (show ((fa.all fun f => f.ok K) && ((ex.all fun f => f K) && fn.all fun d => d.ok K)) = true from congrArg (fun z : AlA => z.1) c)
  exact ⟨c1, He.ba c2⟩
theorem SaysA.fact (c : SaysA fa ex fn K) (i : Nat) {f : He.Fa} (h : fa[i]? = some f := by rfl) : f.ok K = true := List.all_eq_true.mp c.all.1 f (List.mem_of_getElem? h)
theorem SaysA.ex_ (c : SaysA fa ex fn K) (i : Nat) {f : PySem.W.Frag → Bool} (h : ex[i]? = some f := by rfl) : f K = true := List.all_eq_true.mp c.all.2.1 f (List.mem_of_getElem? h)
theorem SaysA.def_ (c : SaysA fa ex fn K) (i : Nat) {d : DefA} (h : fn[i]? = some d := by rfl) : ∃ fd, Fun K d.at_.name d.qual d.st (d.at_.ad K) fd := by
  have e : fn.map (fun d => d.obs K) = fn.map DefA.val := congrArg (fun z : AlA => z.2) c
  have e2 : (fn.map fun d => d.obs K)[i]? = (fn.map DefA.val)[i]? := by rw [e]
  rw [List.getElem?_map, List.getElem?_map, h] at e2
  exact DefA.fun_ (Option.some.inj e2) (List.all_eq_true.mp c.all.2.2 d (List.mem_of_getElem? h))
end
/-- the end of a law, over such a head -/
theorem walk_deepE {l : PySem.W.OpenLaw} {n k : Nat} {q : Program} {loose : List Str} {XP : (Str → Option Value) → Heap → Prop} {YP : World → Heap → Prop} {d : DefRec} {S : DSp} {x : Str}
    (hn : l.most = some n) (hn2 : n ≤ sizeLine ∧ k ≤ 60) (hdf : d.params.defaults = [])
    (F : ∀ (w : World) (mg : Str → Option Value) (fa : Addr) (h : Heap), YP w h → h.Ns mainGlobals mg → mg d.name = some (.ref fa) →
      ∃ (K : PySem.W.Frag) (fd : FuncData), K.In h ∧ (∀ (s : Shared) (u : Value), BindsTo s fd ⟨[u], []⟩ [(x, u)]) ∧ ∀ base : Heap, K.In base → base.Ns mainGlobals mg → FnOk l.prog w K mg base (L2.CX l.prog w) k fa fd [x] (spOf K S))
    (hsp : ∀ ns : List Int, ns.length ≤ n → S [.scr ns] [] (fun d _ => d = .bl true) fun _ _ => False) : PySem.W.WalkO q loose XP YP l.row.toRowW d [] (fun f vs => PySem.call f vs) := by
  have hr : Room 60 callerA := ⟨rfl, by decide, by decide⟩
  refine Att.attach_call hn hdf fun w s₀ s₁ mg mb fa o pm cd doc a vs ns G Y ho hd hcd hmg hobj hints hlen hg => ?_
  obtain ⟨K, fd, KX, hb, hF⟩ := F w mg fa _ Y G.T.g hmg
  refine law_call KX G.T.g G.T.b G.T.builtins G.T.nolimit hg hobj hints (Nat.le_trans hlen hn2.1) (hr.mono hn2.2) hF hb (fun H hO hS => ?_) fun H e s' h => ?_
  · refine ⟨⟨H, H, [], []⟩, [.scr ns], [], fun d _ => d = .bl true, fun _ _ => False, rfl, ⟨Same.refl _, rfl, List.nodup_nil, fun i a c h => by simp at h, fun a h => (by cases h), fun i j a b h => by simp at h, fun b h => (by cases h)⟩, .cons (.scr hS) .nil, hsp ns hlen, ?_, fun _ _ _ _ _ _ _ _ z => z.elim⟩
    rintro n' v d μ' _ _ r rfl
    cases r; rfl
  · obtain ⟨_, _, _, _, _, _, _, _, _, _, _, _, z⟩ := h
    exact z
end DV
/-! Own exceptions: their __init__, raise, try with several clauses (over the hand layer). -/
namespace DV
open PySem PySem.Spec PyProof.Rows L2
/-- the base of the program's errors: an own class whose __init__ is ValueError's -/
structure BaseX (K : PySem.W.Frag) (B : Addr) : Prop where
  rd : PySem.W.readsIn K B (.type "type") = true
  ga : PySem.W.specialIn K (.ref B) "__getattribute__" = some (some (.builtin "type.__getattribute__"))
  fc : PySem.W.findCls K (.ref B) (.type "type") "__init__" = some (.val (.builtin "ValueError.__init__"))
section
variable {X : Cx} {e o : Expr} {es : List Expr} {ta : TA} {to te : TE} {p1 p2 p pos : Pos} {B C : Addr} {f : Str}
theorem pe_baseInit {pl : Sem Bool} {x : Str} (b : BaseX X.K B) (hg : Gl X x) (hm : X.mg x = some (.ref B)) (hdb : (x == ("__debug__" : Str)) = false) (ha : PA X (e :: es) ta)
    (hc : eval (.Call (.Attribute (.Name x p1) "__init__" p2) (e :: es) [] pos) X.env = (do let ov ← eval (.Name x p1) X.env; standAt p2.atName; let (f, first) ← holding [ov] (getMethod ov "__init__" pl); callWith pos f first (backTo pos (starEach (e :: es) X.env)) (backToKw pos (keywordEach [] X.env))) := by rfl)
    (he : starEach (e :: es) X.env = (false, eval e X.env) :: starEach es X.env := by rfl) (hpl : (backTo pos (starEach es X.env)).any (·.1) = false := by rfl) :
    PE X (.Call (.Attribute (.Name x p1) "__init__" p2) (e :: es) [] pos) (tVeI X.K ta) := ⟨fun pins s σ H Q I h => by
  refine PySem.W.methodCall_KW (ld_glob I hg hm ?_ hdb) hc
  refine PySem.W.method_cls I.kIn b.ga (PySem.W.cls_value I.kIn b.rd b.fc rfl ?_)
  show wpAny _ _ (callWith pos (Value.builtin "ValueError.__init__") [] _ []) _ _ _
  refine PyProof.Rows.callWith_method1 (thn (ha.run pos pins _ σ H _ (I.tok _) h) ?_) he hpl
  rintro us s1 ⟨vs, H1, I1, r1, a, C, ws, rfl, hl, T, ea, q⟩
  cases r1 with
  | cons ra rr =>
    cases ra
    refine oinit_ok T I1 ea ?_ fun s' J => ⟨.non, H1, J, rfl, q⟩
    have := Paired.length rr
    rw [← this, sizeLine_eq]; omega⟩
/-- what __init__ of an error with one field does -/
def spI1 (C : Addr) (f : Str) : Sp := fun vs H Q _ => ∃ a y, vs = [.ref a, y] ∧ H a = some (exo a C none) ∧ ∀ dx, H dx = none → dx ≠ a → Q .non (upd (upd H dx (exd dx [(f, y)])) a (exo a C (some dx)))
end
def tI1 (K : PySem.W.Frag) (m f : Str) : TS := tSeq (L2.tDrop (tVeI K (tCons (tVar 0) (tCons (tC (.str m)) tNil)))) (tOst K f (tVar 0) (tVar 1))
section
variable {P : Program} {w : World} {K : PySem.W.Frag} {mg : Str → Option Value} {base : Heap} {C : Addr} {m f : Str} {fI : Addr} {fd : FuncData} {st : Stmt} {x qual n1 n2 : Str}
theorem ok_I1 (F : Fun K x qual st fI fd) (Sc : FnScope [n1, n2] [n1, n2] (defScope st)) (T : OexC K C) (hno : PySem.W.findIn K (.ref C) f = some none)
    (hb : ∀ (cdv : Value) (A : Around) (outer : List Env) (s : Shared) (H : Hp) (E : XK), PSs (cxOf CX0 P w K mg base [n1, n2] qual (defScope st) fI cdv A outer s H E).nox (defBody st) (tI1 K m f)) : FnOk P w K mg base CX0 1 fI fd [n1, n2] (spI1 C f) := by
  refine F.ok Sc (fun vs H Q E h => ?_) (fun cdv A outer s H vs Q E hr h => ⟨_, hb cdv A outer s H E, ?_⟩)
  · obtain ⟨a, y, rfl, _⟩ := h; rfl
  · obtain ⟨a, y, rfl, ha, q⟩ := h
    exact ⟨.ref a, rfl, a, C, [.str m], rfl, by simp, T, ha, y, rfl, .ref a, rfl, a, C, rfl, T, hno, .inl ⟨ha, fun dx h1 h2 => q dx h1 h2⟩⟩
end
/-! ### the error without a field: raise C() -/
end DV
/-! try with several clauses, each with a name or without. -/
namespace DV
open PySem PySem.Spec PyProof.Rows L2
abbrev Clause := Value × Option Nat × (Addr → Value → Option Addr → TS)
/-- the ends of a suite whose name goes -/
def goEnds (i : Nat) (D : Ends) : Ends := { nx := fun σ H => D.nx (σ.set i none) H, rt := D.rt, bk := fun σ H => D.bk (σ.set i none) H, ct := fun σ H => D.ct (σ.set i none) H }
def inClause (o : Option Nat) (ts : TS) (D : Ends) (a : Addr) (σ : L2.St) (H : Hp) : Prop := match o with
  | none => ts D σ H
  | some i => ts (goEnds i D) (σ.set i (some (.ref a))) H
def wMs (K : PySem.W.Frag) (Wo : WX) (D : Ends) : List Clause → WX
  | [] => Wo
  | (c, o, ts) :: r => fun cls d σ H => ∃ b, PySem.W.exmOne K cls c = some b ∧ (b = true → ∀ a, H a = none → inClause o (ts a cls d) D a σ H) ∧ (b = false → wMs K Wo D r cls d σ H)
inductive MsOk (X : Cx) : List ExceptHandler → List Clause → Prop
  | nil : MsOk X [] []
  | plain {x : Str} {c : Value} {ts : Addr → Value → Option Addr → TS} {b0 : Stmt} {su : List Stmt} {np hp : Pos} {hs : List ExceptHandler} {l : List Clause} (hc : L2.Names X x c)
      (hsu : ∀ (a : Addr) (oe : Obj) (cls : Value) (d : Option Addr) (pn : List (Addr × Obj)), Zc cls d oe → (∃ vs, oe.data = .fields vs) → PSs (X.suite a ((a, oe) :: pn)) (b0 :: su) (ts a cls d)) (r : MsOk X hs l) :
      MsOk X (.ExceptHandler (some (.Name x np)) none (b0 :: su) hp :: hs) ((c, none, ts) :: l)
  | named {x n : Str} {i : Nat} {c : Value} {ts : Addr → Value → Option Addr → TS} {b0 : Stmt} {su : List Stmt} {np hp : Pos} {hs : List ExceptHandler} {l : List Clause} (hc : L2.Names X x c) (hi : X.N[i]? = some n) (hln : X.env.kindOf n = some .local)
      (hsu : ∀ (a : Addr) (oe : Obj) (cls : Value) (d : Option Addr) (pn : List (Addr × Obj)), Zc cls d oe → (∃ vs, oe.data = .fields vs) → PSs (X.suite a ((a, oe) :: pn)) (b0 :: su) (ts a cls d)) (r : MsOk X hs l) :
      MsOk X (.ExceptHandler (some (.Name x np)) (some n) (b0 :: su) hp :: hs) ((c, some i, ts) :: l)
section
variable {X : Cx} {body : List Stmt} {h0 : ExceptHandler} {hds : List ExceptHandler} {l : List Clause} {pos : Pos} {tb : WX → TS} {Wo : WX}
theorem ps_try_ms (hs : X.stack = X.env :: X.outer) (hf : X.env.frame = some X.env.locals) (hN : X.N.Nodup) (tk : Takes X Wo)
    (hb : ∀ (W : WX) (pn : List (Addr × Obj)) (xe : Value → Shared → Prop), Takes (X.tr pn xe) W → PassesOwn (model X.prog X.w) X.A X.env xe → PSs (X.tr pn xe) body (tb W)) (hh : MsOk X (h0 :: hds) l) :
    PS X (.Try body (h0 :: hds) [] [] pos) (fun D σ H => tb (wMs X.K Wo D l) D σ H) := ⟨fun pins s σ H D I h => by
  have ok := I.ok
  have frames : X.A.frames = some (X.env :: X.outer) := by rw [ok.frames, hs]
  have bodyRun := fun xe tk' po => (hb (wMs X.K Wo D l) (X.pn ++ pins) xe tk' po).run [] s σ H D (I.toTry _) h
  refine wpAny_Try_except (wpAny_mono (bodyRun (fun e s₁ => wpAny (model X.prog X.w) X.A (noteFrame e X.env) (fun _ s₂ => wpAny (model X.prog X.w) X.A (setFlight e none) (fun _ s₃ => wpAny (model X.prog X.w) X.A (handleBy e X.env (h0 :: hds)) (L2.SP X pins D) X.xe s₃) X.xe s₂) X.xe s₁)
    (fun u s' xx => ?_) PassesOwn.looking) (fun fl s1 sp => ?_) fun _ _ z => z)
  · obtain ⟨a, B, sI, _, σ1, H1, cls, d, rfl, J1, nb, up, sky, na, os, ag, want⟩ := xx
    have J : Inv X pins σ1 H1 sI := J1.ofTry ok
    rw [hs] at sky
    show wpAny (model X.prog X.w) X.A (noteFrame (.ref a) X.env) _ _ _
    refine Sky.land Zc.steady frames hf sky fun h3 fl3 up3 => ?_
    have J3 : Inv X pins σ1 H1 { s' with heap := h3 } := J.landed nb fl3.1 (up.trans up3) os ag
    obtain ⟨oe3, vs3, he3, hz3, hd3⟩ := fl3.there
    have notIn : a ∉ frs (X.env :: X.outer) := fun hm => by
      obtain ⟨_, o', e', hnf⟩ := fl3.2.2.1.mem hm
      rw [he3] at e'; cases e'
      exact hnf _ hd3
    have nL : a ≠ X.env.locals := fun z => notIn (List.mem_filterMap.mpr ⟨X.env, List.mem_cons_self, by rw [hf, z]⟩)
    have nF : a ∉ X.fs := fun hm => by
      obtain ⟨e, he, q⟩ := List.mem_filterMap.mp hm
      exact notIn (List.mem_filterMap.mpr ⟨e, List.mem_cons_of_mem _ he, q⟩)
    have S3 := J3.suite he3 hd3 na nL nF
    have look : PySem.W.Looks (model X.prog X.w) h3 (typeOf (.ref a)) cls := fun A Q E s k q => wpAny_typeOf_ref (k _ _ he3) (by rw [hz3.1]; exact q)
    have name : ∀ {x : Str} {np : Pos} {c : Value} {Q : Value → Shared → Prop} {E : Value → Shared → Prop}, L2.Names X x c → Q c { s' with heap := h3 } → wpAny (model X.prog X.w) (X.A.mark (some (.ref a))) (eval (.Name x np) X.env) Q E { s' with heap := h3 } := fun hc q => by
      obtain ⟨hg, hdbg, hm⟩ := hc
      rcases hm with hm | ⟨hm, hv, hnn⟩
      · exact ld_glob (X := X.suite a ((a, oe3) :: (X.pn ++ pins))) S3 hg hm q hdbg
      · exact ld_blt (X := X.suite a ((a, oe3) :: (X.pn ++ pins))) S3 hg hm hv q hnn hdbg
    have each : ∀ {hs' : List ExceptHandler} {l' : List Clause}, MsOk X hs' l' → wMs X.K Wo D l' cls d σ1 H1 → wpAny (model X.prog X.w) X.A (handleBy (.ref a) X.env hs') (L2.SP X pins D) X.xe { s' with heap := h3 } := by
      intro hs' l' m
      induction m with
      | nil =>
        intro w
        refine wpAny_handleBy_nil ?_
        obtain ⟨_, _, _, oe, vs, T, oT, ts', he, hz, hd, h1, hr⟩ := id fl3
        have out : wpAny (model X.prog X.w) X.A (setFlight (.ref a) X.env.frame) (fun _ s4 => wpAny (model X.prog X.w) X.A (throw (.ref a) : Sem Flow) (L2.SP X pins D) X.xe s4) X.xe { s' with heap := h3 } := by
          rw [hf]
          refine HandSPX.setFlight_upZ fl3 fun h4 hh4 up4 => wpAny_throw (tk _ _ ?_)
          refine ⟨a, B, sI, pins, σ1, H1, cls, d, rfl, J, nb, (up.trans up3).trans up4, .inr (.inr ?_), na, os, ag, w⟩
          rw [hs]; exact hh4
        unfold PySem.passOn
        refine wpAny_bind (wpAny_field he hd h1 ?_)
        rw [if_neg (show ¬ ((Value.ref T == Value.none) = true) by simp)]
        first
          | exact wpAny_bind (wpAny_pure (wpAny_bind out))
          | exact wpAny_bind out
      | plain hc hsu r ih =>
        rintro ⟨b, hb1, yes, no⟩
        refine wpAny_handleBy_cons (codeAny_handlers_test (name hc ?_)) (by intro q; cases q)
        refine (PySem.W.exm_one (M := model X.prog X.w) J3.kIn look hb1).here ?_
        cases b with
        | false => exact ih (no rfl)
        | true =>
          refine codeAny_handlers_suite (HandSPX.lands_againZ fl3 fun h4 fl4 up4 => ?_)
          have J4 : Inv X pins σ1 H1 { s' with heap := h4 } := J.landed nb fl4.1 ((up.trans up3).trans up4) os ag
          obtain ⟨oe4, vs4, he4, hz4, hd4⟩ := fl4.there
          refine wpAny_mono ((hsu a oe4 cls d (X.pn ++ pins) hz4 ⟨_, hd4⟩).run [] _ _ H1 _ (J4.suite he4 hd4 na nL nF) (yes rfl a na)) (fun f s6 sp => ?_) fun _ _ z => z.elim
          match f, sp with
          | .next, ⟨σ6, H6, S6, q6⟩ => exact ⟨_, _, S6.unsuite ok, q6⟩
          | .brk, ⟨σ6, H6, S6, q6⟩ => exact ⟨_, _, S6.unsuite ok, q6⟩
          | .cont, ⟨σ6, H6, S6, q6⟩ => exact ⟨_, _, S6.unsuite ok, q6⟩
          | .ret u, ⟨v6, σ6, H6, S6, r6, q6⟩ => exact ⟨_, _, _, S6.unsuite ok, r6, q6⟩
      | @named x n i c ts b0 su np hp hs2 l2 hc hi hln hsu r ih =>
        rintro ⟨b, hb1, yes, no⟩
        refine wpAny_handleBy_cons (codeAny_handlers_test (name hc ?_)) (by intro q; cases q)
        refine (PySem.W.exm_one (M := model X.prog X.w) J3.kIn look hb1).here ?_
        cases b with
        | false => exact ih (no rfl)
        | true =>
          refine codeAny_handlers_suite_as (HandSPX.lands_againZ fl3 fun h4 fl4 up4 => ?_)
          have J4 : Inv X pins σ1 H1 { s' with heap := h4 } := J.landed nb fl4.1 ((up.trans up3).trans up4) os ag
          obtain ⟨oe4, vs4, he4, hz4, hd4⟩ := fl4.there
          refine store_ok (X := X.suite a ((a, oe4) :: (X.pn ++ pins))) (v := .ref a) (J4.suite he4 hd4 na nL nF) hN hi (.inl hln) rfl (fun s5 S5 => ?_) (.inr hln)
          refine wpAny_mono ((hsu a oe4 cls d (X.pn ++ pins) hz4 ⟨_, hd4⟩).run [] s5 _ H1 _ S5 (yes rfl a na)) (fun f s6 sp => ?_) fun _ _ z => z.elim
          have gone : ∀ {σ6 : L2.St} {H6 : Hp} {R : Shared → Prop}, Inv (X.suite a ((a, oe4) :: (X.pn ++ pins))) [] σ6 H6 s6 → (∀ s7, Inv X pins (σ6.set i none) H6 s7 → R s7) → wpAny (model X.prog X.w) X.A (do bindName X.env n .none; unbindBehindTheSuite X.env n hp) (fun _ s7 => R s7) X.xe s6 := fun S6 hq =>
            gone_ok (S6.unsuite ok) hN hi hln hq
          match f, sp with
          | .next, ⟨σ6, H6, S6, q6⟩ => exact gone S6 fun s7 J7 => ⟨_, _, J7, q6⟩
          | .brk, ⟨σ6, H6, S6, q6⟩ => exact gone S6 fun s7 J7 => ⟨_, _, J7, q6⟩
          | .cont, ⟨σ6, H6, S6, q6⟩ => exact gone S6 fun s7 J7 => ⟨_, _, J7, q6⟩
          | .ret u, ⟨v6, σ6, H6, S6, r6, q6⟩ => exact gone S6 fun s7 J7 => ⟨_, _, _, J7, r6, q6⟩
    exact each hh want
  · match fl, sp with
    | .next, ⟨σ', H', J', q⟩ => exact wpAny_execs_nil ⟨σ', H', J'.ofTry ok, q⟩
    | .brk, ⟨σ', H', J', q⟩ => exact ⟨σ', H', J'.ofTry ok, q⟩
    | .cont, ⟨σ', H', J', q⟩ => exact ⟨σ', H', J'.ofTry ok, q⟩
    | .ret u, ⟨v, σ', H', J', r, q⟩ => exact ⟨v, σ', H', J'.ofTry ok, r, q⟩⟩
end
end DV
/-! raise, try and e.f at the deep level. -/
namespace DV
open PySem PySem.Spec PyProof.Rows L2
abbrev xa (K : PySem.W.Frag) (k : EK) : Addr := He.ga K k.nm
/-! ### facts of the written part, as Booleans -/
def oexB (K : PySem.W.Frag) (C : Addr) : Bool := (match K.lookup C with
  | some ⟨.type "type", _, .cls cd, sl⟩ => (match cd.mro, sl.toList with
    | .ref C' :: bm, [_, _, _, _, some (.builtin n), _] => C' == C && (n == "ValueError.__new__" && (!cd.hasDel && (cd.hasDict && PySem.HandSPX.refsVE bm)))
    | _, _ => false)
  | _ => false) && (He.eqO (PySem.W.findIn K (.ref C) "__setattr__") (some (some (.builtin "object.__setattr__"))) && (decide (PySem.W.subIn K (.ref C) (.type "BaseException") = some true) && (decide (PySem.W.typeIn K (.ref C) = some (.type "type")) && PySem.W.keepIn K (.ref C))))
theorem oexB_ok {K : PySem.W.Frag} {C : Addr} (h : oexB K C = true) : OexC K C := by
  obtain ⟨q, h⟩ := He.ba h
  obtain ⟨h1, h⟩ := He.ba h
  obtain ⟨h2, h⟩ := He.ba h
  obtain ⟨h3, h4⟩ := He.ba h
  refine ⟨?_, He.eqO_ok h1, of_decide_eq_true h2, of_decide_eq_true h3, h4⟩
  split at q
  · rename_i dd cd sl ho
    split at q
    · rename_i C' bm k0 k1 k2 k3 n k5 hm hs
      simp only [Bool.and_eq_true, beq_iff_eq, Bool.not_eq_true'] at q
      obtain ⟨rfl, rfl, hdel, hdic, ht⟩ := q
      obtain ⟨nm, bs, mro, ns, qn, hd, sn, sub, ab, col, del⟩ := cd
      dsimp only at hm hdel hdic
      subst hm hdel hdic
      have hsl : sl = #[k0, k1, k2, k3, some (.builtin "ValueError.__new__"), k5] := by
        obtain ⟨l⟩ := sl
        simp only at hs
        rw [hs]
      subst hsl
      exact ⟨nm, qn, ns, bs, bm, sn, sub, ab, col, dd, k0, k1, k2, k3, k5, ho, ht⟩
    · cases q
  · cases q
/-- an error class with its __init__ -/
def errB (k : EK) (K : PySem.W.Frag) : Bool := oexB K (xa K k) && (He.eqO (PySem.W.findIn K (.ref (xa K k)) "__init__") (some (some (.ref (He.ma K (xa K k) "__init__")))) && decide (PySem.W.typeIn K (.ref (He.ma K (xa K k) "__init__")) = some (.type "function")))
structure ErrC (K : PySem.W.Frag) (k : EK) (fI : Addr) : Prop where
  T : OexC K (xa K k)
  iC : PySem.W.findIn K (.ref (xa K k)) "__init__" = some (some (.ref fI))
  tI : PySem.W.typeIn K (.ref fI) = some (.type "function")
theorem errB_ok {K : PySem.W.Frag} {k : EK} (h : errB k K = true) : ErrC K k (He.ma K (xa K k) "__init__") := by
  obtain ⟨h1, h⟩ := He.ba h
  obtain ⟨h2, h3⟩ := He.ba h
  exact ⟨oexB_ok h1, He.eqO_ok h2, of_decide_eq_true h3⟩
/-- the base of all errors -/
def baseB (K : PySem.W.Frag) : Bool := PySem.W.readsIn K (He.ga K "ChooserError") (.type "type") && (decide (PySem.W.specialIn K (.ref (He.ga K "ChooserError")) "__getattribute__" = some (some (.builtin "type.__getattribute__"))) && (match PySem.W.findCls K (.ref (He.ga K "ChooserError")) (.type "type") "__init__" with | some (.val (.builtin n)) => n == "ValueError.__init__" | _ => false))
theorem baseB_ok {K : PySem.W.Frag} (h : baseB K = true) : BaseX K (He.ga K "ChooserError") := by
  obtain ⟨h1, h⟩ := He.ba h
  obtain ⟨h2, h3⟩ := He.ba h
  refine ⟨h1, of_decide_eq_true h2, ?_⟩
  split at h3
  · rename_i n e; rw [e, beq_iff_eq.mp h3]
  · cases h3
/-- which clause catches which error -/
def emB (ks : List EK) (K : PySem.W.Frag) : Bool := ks.all fun j => ks.all fun k => decide (PySem.W.exmOne K (.ref (xa K j)) (.ref (xa K k)) = some (decide (j = k)))
def EmOk (ks : List EK) (K : PySem.W.Frag) : Prop := ∀ j ∈ ks, ∀ k ∈ ks, PySem.W.exmOne K (.ref (xa K j)) (.ref (xa K k)) = some (decide (j = k))
theorem emB_ok {ks : List EK} {K : PySem.W.Frag} (h : emB ks K = true) : EmOk ks K := fun j hj k hk => of_decide_eq_true (List.all_eq_true.mp (List.all_eq_true.mp h j hj) k hk)
/-- e.f of an error -/
def xfldB (k : EK) (f : Str) (K : PySem.W.Frag) : Bool := xfB K (xa K k) && He.eqO (PySem.W.findIn K (.ref (xa K k)) f) (some none)
theorem xfldB_ok {k : EK} {f : Str} {K : PySem.W.Frag} (h : xfldB k f K = true) : XfC K (xa K k) ∧ PySem.W.findIn K (.ref (xa K k)) f = some none := by
  obtain ⟨h1, h2⟩ := He.ba h
  exact ⟨xfB_ok h1, He.eqO_ok h2⟩
/-! ### raise -/
def HasE (P : Program) (w : World) (K : PySem.W.Frag) (mg : Str → Option Value) (base : Heap) (k : EK) (f : Str) : Prop :=
  ∃ fI fd n1 n2, mg k.nm = some (.ref (xa K k)) ∧ ErrC K k fI ∧ Binds K fd [n1, n2] [] ∧ FnOk P w K mg base CX0 1 fI fd [n1, n2] (spI1 (xa K k) f)
def dRaise (k : EK) (f : Str) (fa : DTE) : DTS := fun Dd Γ μ => fa Γ μ (fun d μ1 => Dd.ex ⟨k, [(f, d)]⟩ Γ μ1) (fun x μ1 => Dd.ex x Γ μ1)
def dRaise0 (k : EK) : DTS := fun Dd Γ μ => Dd.ex ⟨k, []⟩ Γ μ
section
variable {X : Cx} {W : WX} {e : Expr} {x : Str} {p pos pos2 : Pos} {fa : DTE} {k : EK} {f : Str}
theorem ds_raise (h : HasE X.prog X.w X.K X.mg X.base k f) (hr : Room 2 X.A) (hg : Gl X x) (tk : Takes X W) (ha : DE X W e fa) (hc : X.calm = true := by rfl) (hk : x = k.nm := by rfl) (hdb : (x == ("__debug__" : Str)) = false := by decide)
    (he : starEach [e] X.env = (false, eval e X.env) :: starEach [] X.env := by rfl) (hpl : (backTo pos (starEach [] X.env)).any (·.1) = false := by rfl) : DS X W (.Raise (some (.Call (.Name x p) [e] [] pos)) none pos2) (dRaise k f fa) := by
  subst hk
  obtain ⟨fI, fd, n1, n2, hm, ⟨T, iC, tI⟩, hb, F⟩ := h
  refine PS.imp (ps_raise hc tk (pmk_oex (CX := CX0) (dvs := []) (ds := []) (k := 1) T iC tI F hr hb .nil pass0 hg hm (da_cons ha da_nil he) hdb he hpl)) fun Dn σ H ⟨A, n, Γ, μ, Dd, hH, sa, sr, gr, h, l⟩ => ?_
  subst hH
  refine liftA_go (Qd := fun ds μ1 => match ds with | [d] => Dd.ex ⟨k, [(f, d)]⟩ Γ μ1 | _ => False) (Ed := fun x μ1 => Dd.ex x Γ μ1) sr gr h (fun n1 vs ds μ1 s1 r1 p1 q1 => ?_) (fun n' cls dd x μ' s' r' e q => l.ex n' Γ σ μ' cls dd x (sa.trans s') r' (gr.step s') (e.anchor sa) q)
  match ds, q1 with
  | [d], q1 =>
    cases p1 with
    | cons rv pn =>
      cases pn
      rename_i v
      refine ⟨by simp, fun a ha => ⟨a, v, rfl, upd_same, fun dx hdx hne => ⟨rfl, dx, [(f, v)], upd_same, ?_, ?_, ?_⟩⟩⟩
      · rw [upd_ne hne]; exact upd_same
      · rw [upd_ne hne] at hdx; exact hdx
      · have hdx' : n1.H dx = none := by rw [upd_ne hne] at hdx; exact hdx
        have eH : upd (del (upd (upd (upd n1.H a (exo a (xa X.K k) none)) dx (exd dx [(f, v)])) a (exo a (xa X.K k) (some dx))) a) dx (.xd [(f, v)]) = (n1.more dx (.xd [(f, v)])).H := by
          funext b
          show _ = upd n1.H dx _ b
          by_cases hb : b = dx
          · subst hb; rw [upd_same, upd_same]
          · rw [upd_ne hb, upd_ne hb]
            by_cases hba : b = a
            · subst hba; rw [del_same]; exact ha.symm
            · rw [del_ne hba, upd_ne hba, upd_ne hb, upd_ne hba]
        rw [eH]
        have st : Step n1 (n1.more dx (.xd [(f, v)])) := Step.more hdx'
        refine l.ex _ Γ σ μ1 _ _ _ ((sa.trans s1).trans st) (r1.more hdx') ((gr.step s1).step st) ⟨rfl, .inr ⟨dx, [(f, v)], rfl, (sa.trans s1).dom dx hdx', ⟨r1.hb hdx', fun z => r1.alh dx z hdx', fun z => (r1.phb dx z).2.2 hdx'⟩, upd_same, ?_, ?_⟩⟩ q1
        · intro g
          show List.lookup g [(f, v)] = none ↔ List.lookup g [(f, d)] = none
          simp only [List.lookup_cons, List.lookup_nil]
          cases g == f <;> simp
        · intro g u hu
          have hu : List.lookup g [(f, v)] = some u := hu
          show ∃ d', List.lookup g [(f, d)] = some d' ∧ _
          rw [List.lookup_cons] at hu ⊢
          split at hu
          · cases hu; exact ⟨d, rfl, rv⟩
          · cases hu
end
/-! ### try -/
structure DCl where
  k : EK
  o : Option Nat
  su : Addr → Addr → Nat → DTS
def DCl.cl (K : PySem.W.Frag) (c : DCl) : Clause := (.ref (xa K c.k), c.o, fun a cls d => match c.o with
  | none => liftS K W0 (c.su 0 0 0)
  | some _ => fun Dn σ H => ∃ dd l, cls = .ref (xa K c.k) ∧ d = some dd ∧ liftS K W0 (c.su a dd l) Dn σ H)
def dGo (i : Nat) (D : DEnds) : DEnds := { nx := fun Γ μ => D.nx (Γ.set i none) μ, rt := D.rt, bk := fun Γ μ => D.bk (Γ.set i none) μ, ct := fun Γ μ => D.ct (Γ.set i none) μ, ex := fun _ _ _ => False }
def dIn (c : DCl) (Dd : DEnds) (x : Exn) (Γ : Gam) (μ : Mu) : Prop := match c.o with
  | none => c.su 0 0 0 { Dd with ex := fun _ _ _ => False } Γ μ
  | some i => x.fs ≠ [] ∧ ∀ a dd, c.su a dd μ.length (dGo i Dd) (Γ.set i (some (.cls a))) (μ ++ [.exc dd x.fs])
def dHandle (ks : List EK) : List DCl → DEnds → Exn → Gam → Mu → Prop
  | [], Dd, x, Γ, μ => Dd.ex x Γ μ
  | c :: r, Dd, x, Γ, μ => x.k ∈ ks ∧ c.k ∈ ks ∧ if x.k = c.k then dIn c Dd x Γ μ else dHandle ks r Dd x Γ μ
def dTry (ks : List EK) (Tb : DTS) (cl : List DCl) : DTS := fun Dd Γ μ => Tb { Dd with ex := dHandle ks cl Dd } Γ μ
/-- the dict of a caught error becomes a cell -/
theorem caught {K : PySem.W.Frag} {A n : Now} {μ : Mu} {dd : Addr} {us : List (Str × V)} {fs : List (Str × D)} (sa : Step A n) (sr : SR0 K n μ) (hA : A.H dd = none) (hh : n.Hb dd = none ∧ dd ∉ n.al ∧ dd ∉ n.ph) (hu : n.H dd = some (.xd us))
    (h1 : ∀ f, us.lookup f = none ↔ fs.lookup f = none) (h2 : ∀ f v, us.lookup f = some v → ∃ d, fs.lookup f = some d ∧ Rep K n.Hb n.al v d) :
    SR0 K ⟨n.Hb, n.H, n.al ++ [dd], n.ph⟩ (μ ++ [.exc dd fs]) ∧ Step A ⟨n.Hb, n.H, n.al ++ [dd], n.ph⟩ := by
  have hpre : n.al <+: n.al ++ [dd] := List.prefix_append _ _
  refine ⟨⟨sr.same, by simp [sr.len], ?_, fun i a c e1 e2 => ?_, fun b hb => ?_, fun i j x y e1 e2 => ?_, fun b hb => ?_⟩, ⟨sa.same, sa.pre.trans hpre, sa.newb, fun b hb => ?_, sa.newp, sa.keep, sa.dom⟩⟩
  · show (n.al ++ [dd]).Nodup
    rw [List.nodup_append]
    exact ⟨sr.nd, by simp, fun b hb c hc z => by rw [List.mem_singleton.mp hc] at z; exact hh.2.1 (z ▸ hb)⟩
  · have e1' : (n.al ++ [dd])[i]? = some a := e1
    by_cases hi : i < n.al.length
    · rw [List.getElem?_append_left hi] at e1'
      rw [List.getElem?_append_left (by rw [← sr.len]; exact hi)] at e2
      exact (sr.cell i a c e1' e2).grow (n' := ⟨n.Hb, n.H, n.al ++ [dd], n.ph⟩) rfl (fun z => z) (Same.refl _) hpre rfl fun _ _ => rfl
    · rw [List.getElem?_append_right (by omega)] at e1'
      rw [List.getElem?_append_right (by rw [← sr.len]; omega), ← sr.len] at e2
      have hz : i - n.al.length = 0 := by
        have := (List.getElem?_eq_some_iff.mp e1').1
        simp at this; omega
      rw [hz] at e1' e2
      simp at e1' e2
      subst e1'; subst e2
      exact ⟨hh.1, rfl, us, hu, h1, fun f v e => let ⟨d, z1, z2⟩ := h2 f v e; ⟨d, z1, z2.mono (Same.refl _) hpre⟩⟩
  · rcases List.mem_append.mp hb with z | z
    · exact sr.alh b z
    · rw [List.mem_singleton.mp z]; show n.H dd ≠ none; rw [hu]; simp
  · have q : ∀ (i : Nat) x, (μ ++ [Cell.exc dd fs])[i]? = some (.orc x) → μ[i]? = some (.orc x) := fun i x e => by
      by_cases hi : i < μ.length
      · rw [List.getElem?_append_left hi] at e; exact e
      · rw [List.getElem?_append_right (by omega)] at e
        have hz : i - μ.length = 0 := by
          have := (List.getElem?_eq_some_iff.mp e).1
          simp at this; omega
        rw [hz] at e; simp at e
    exact sr.orc1 i j x y (q i x e1) (q j y e2)
  · obtain ⟨z1, z2, z3⟩ := sr.phb b hb
    refine ⟨z1, fun z => ?_, z3⟩
    rcases List.mem_append.mp z with z | z
    · exact z2 z
    · rw [List.mem_singleton.mp z] at hb; exact hh.2.2 hb
  · rcases List.mem_append.mp hb with z | z
    · exact sa.newa b z
    · rw [List.mem_singleton.mp z]; exact .inr hA
section
variable {X : Cx} {W : WX} {body : List Stmt} {h0 : ExceptHandler} {hds : List ExceptHandler} {cl : List DCl} {ks : List EK} {pos : Pos} {Tb : DTS} {c : DCl}
theorem handle_go {A : Now} {Dd : DEnds} {Dn : Ends} {K : PySem.W.Frag} (em : EmOk ks K) (l : Links K W A Dd Dn) : ∀ (cl : List DCl) (n : Now) (Γ : Gam) (σ : L2.St) (μ : Mu) (cls : Value) (dd : Option Addr) (x : Exn), Step A n → SR0 K n μ → GR K n Γ σ → ExR K A n cls dd x → dHandle ks cl Dd x Γ μ → wMs K W Dn (cl.map (DCl.cl K)) cls dd σ n.H
  | [], n, Γ, σ, μ, cls, dd, x, sa, sr, gr, ex, h => l.ex n Γ σ μ cls dd x sa sr gr ex h
  | c :: r, n, Γ, σ, μ, cls, dd, x, sa, sr, gr, ex, h => by
    obtain ⟨m1, m2, h⟩ := h
    refine ⟨decide (x.k = c.k), by rw [ex.1]; exact em _ m1 _ m2, fun hb a na => ?_, fun hb => ?_⟩
    · rw [if_pos (of_decide_eq_true hb)] at h
      unfold dIn at h
      show inClause c.o _ Dn a σ n.H
      cases ho : c.o with
      | none =>
        rw [ho] at h
        show liftS K W0 (c.su 0 0 0) Dn σ n.H
        exact ⟨A, n, Γ, μ, { Dd with ex := fun _ _ _ => False }, rfl, sa, sr, gr, h, ⟨l.nx, l.bk, l.ct, l.rt, fun _ _ _ _ _ _ _ _ _ _ _ z => z.elim⟩⟩
      | some i =>
        rw [ho] at h
        obtain ⟨hne, h⟩ := h
        obtain ⟨ec, ex2⟩ := ex
        obtain ⟨d, us, rfl, hA, hh, hu, h1, h2⟩ := ex2.resolve_left fun z => hne z.2
        obtain ⟨s2, a2⟩ := caught sa sr hA hh hu h1 h2
        show ∃ dd l, cls = .ref (xa K c.k) ∧ some d = some dd ∧ liftS K W0 (c.su a dd l) (goEnds i Dn) (σ.set i (some (.ref a))) n.H
        refine ⟨d, μ.length, by rw [ec, of_decide_eq_true hb], rfl, A, ⟨n.Hb, n.H, n.al ++ [d], n.ph⟩, _, _, dGo i Dd, rfl, a2, s2, ?_, h a d, ?_⟩
        · have g2 : GR K ⟨n.Hb, n.H, n.al ++ [d], n.ph⟩ Γ σ := ⟨gr.len, fun j e hj => let ⟨v, z1, z2⟩ := gr.at_ j e hj; ⟨v, z1, z2.mono (Same.refl _) (List.prefix_append _ _)⟩⟩
          exact g2.set (.cls a) i
        · exact ⟨fun n' Γ' σ' μ' q1 q2 q3 q4 => l.nx n' _ _ μ' q1 q2 (q3.unset i) q4, fun n' Γ' σ' μ' q1 q2 q3 q4 => l.bk n' _ _ μ' q1 q2 (q3.unset i) q4, fun n' Γ' σ' μ' q1 q2 q3 q4 => l.ct n' _ _ μ' q1 q2 (q3.unset i) q4, l.rt, fun _ _ _ _ _ _ _ _ _ _ _ z => z.elim⟩
    · rw [if_neg (of_decide_eq_false hb)] at h
      exact handle_go em l r n Γ σ μ cls dd x sa sr gr ex h
theorem ds_try (em : EmOk ks X.K) (hs : X.stack = X.env :: X.outer) (hf : X.env.frame = some X.env.locals) (hN : X.N.Nodup) (tk : Takes X W)
    (hb : ∀ (W' : WX) (pn : List (Addr × Obj)) (xe : Value → Shared → Prop), Takes (X.tr pn xe) W' → PassesOwn (model X.prog X.w) X.A X.env xe → DSs (X.tr pn xe) W' body Tb) (hh : MsOk X (h0 :: hds) (cl.map (DCl.cl X.K))) :
    DS X W (.Try body (h0 :: hds) [] [] pos) (dTry ks Tb cl) :=
  PS.imp (ps_try_ms (tb := fun W' => liftS X.K W' Tb) hs hf hN tk hb hh) fun Dn σ H ⟨A, n, Γ, μ, Dd, hH, sa, sr, gr, h, l⟩ => by
  exact ⟨A, n, Γ, μ, { Dd with ex := dHandle ks cl Dd }, hH, sa, sr, gr, h, ⟨l.nx, l.bk, l.ct, l.rt, handle_go em l cl⟩⟩
theorem dms_nil : MsOk X [] (([] : List DCl).map (DCl.cl X.K)) := .nil
theorem dms_named {x n : Str} {i : Nat} {k : EK} {T : Addr → Addr → Nat → DTS} {b0 : Stmt} {su : List Stmt} {np hp : Pos} {hs : List ExceptHandler} {l : List DCl} (hg : Gl X x) (hm : X.mg x = some (.ref (xa X.K k)))
    (hsu : ∀ (a : Addr) (oe : Obj) (dd : Addr) (l : Nat) (pn : List (Addr × Obj)), Zc (.ref (xa X.K k)) (some dd) oe → (∃ vs, oe.data = .fields vs) → DSs (X.suite a ((a, oe) :: pn)) W0 (b0 :: su) (T a dd l)) (r : MsOk X hs (l.map (DCl.cl X.K)))
    (hi : X.N[i]? = some n := by rfl) (hln : X.env.kindOf n = some .local := by rfl) (hdb : (x == ("__debug__" : Str)) = false := by decide) :
    MsOk X (.ExceptHandler (some (.Name x np)) (some n) (b0 :: su) hp :: hs) ((⟨k, some i, T⟩ :: l : List DCl).map (DCl.cl X.K)) :=
  .named ⟨hg, hdb, .inl hm⟩ hi hln (fun a oe cls d pn hz hv => ⟨fun pins s σ H Q I q => by
    obtain ⟨dd, l, rfl, rfl, q⟩ := q
    exact (hsu a oe dd l pn hz hv).run pins s σ H Q I q⟩) r
/-- e.f in a suite -/
def dXf (a dd : Addr) (l : Nat) (f : Str) (fe : DTE) : DTE := fun Γ μ Q E => fe Γ μ (fun v μ1 => v = .cls a ∧ match μ1[l]? with
  | some (.exc d' fs) => d' = dd ∧ (match fs.lookup f with
    | some d => Q d μ1
    | none => False)
  | _ => False) E
theorem de_xf {a dd : Addr} {l : Nat} {oe : Obj} {pn : List (Addr × Obj)} {e : Expr} {fe : DTE} {f : Str} {k : EK} (h : XfC X.K (xa X.K k) ∧ PySem.W.findIn X.K (.ref (xa X.K k)) f = some none) (hz : Zc (.ref (xa X.K k)) (some dd) oe) (hf : ∃ vs, oe.data = .fields vs)
    (he : DE (X.suite a ((a, oe) :: pn)) W e fe) (hb : attributeBase e f X.env (eval e X.env) = eval e X.env := by rfl) : DE (X.suite a ((a, oe) :: pn)) W (.Attribute e f pos) (dXf a dd l f fe) :=
  PE.imp (pe_xf h.1 h.2 hz hf he hb) fun σ H Q ⟨n, Γ, μ, Qd, Ed, hH, sr, gr, h, hq, hx⟩ => by
  subst hH
  refine lift_go sr gr h (fun n1 x dx μ1 s1 r1 p1 q1 => ?_) hx
  obtain ⟨rfl, q1⟩ := q1
  cases p1
  refine ⟨rfl, rfl, ?_⟩
  split at q1
  · rename_i d' fs e1
    obtain ⟨rfl, q1⟩ := q1
    split at q1
    · rename_i d e2
      have hl : l < n1.al.length := by rw [r1.len]; exact (List.getElem?_eq_some_iff.mp e1).1
      obtain ⟨_, rfl, us, h1, h2, h3⟩ := r1.cell l n1.al[l] _ (List.getElem?_eq_getElem hl) e1
      cases eu : us.lookup f with
      | none => rw [(h2 f).mp eu] at e2; cases e2
      | some v =>
        obtain ⟨d2, z1, z2⟩ := h3 f v eu
        rw [e2] at z1; cases z1
        exact ⟨_, us, v, rfl, h1, eu, hq n1 v d μ1 s1 r1 z2 q1⟩
    · exact q1.elim
  · exact q1.elim
end
end DV
/-! Grids of words: lists of lists of texts, as data or in cells. -/
namespace DV
open PySem PySem.Spec PyProof.Rows L2
/-- a list, as data or in a cell that p allows -/
def See (p : Nat → Prop) (μ : Mu) (d : D) (xs : List D) : Prop := d = .lst xs ∨ ∃ l, d = .ref l ∧ p l ∧ μ[l]? = some (.lst xs)
section
variable {p q : Nat → Prop} {μ ext : Mu} {d : D} {xs : List D}
theorem See.lk (h : See p μ d xs) : lk μ d = .lst xs := by
  rcases h with rfl | ⟨l, rfl, _, e⟩
  · rfl
  · exact lk_cell e
theorem See.imp (h : See p μ d xs) (hp : ∀ l, p l → q l) : See q μ d xs := by
  rcases h with h | ⟨l, h1, h2, h3⟩
  · exact .inl h
  · exact .inr ⟨l, h1, hp l h2, h3⟩
theorem See.set (h : See p μ d xs) {l : Nat} (hl : ¬ p l) (c : Cell) : See p (μ.set l c) d xs := by
  rcases h with h | ⟨m, h1, h2, h3⟩
  · exact .inl h
  · exact .inr ⟨m, h1, h2, by rw [List.getElem?_set_ne (show l ≠ m from fun z => hl (z ▸ h2))]; exact h3⟩
end
def GSee (p : Nat → Prop) (μ : Mu) (d : D) (g : List (List Str)) : Prop := ∃ rows, See p μ d rows ∧ rows.length = g.length ∧ ∀ (i : Nat) s, g[i]? = some s → ∃ r, rows[i]? = some r ∧ See p μ r (s.map .str)
def GCell (p : Nat → Prop) (μ : Mu) (d : D) (g : List (List Str)) : Prop := ∃ lo rows, d = .ref lo ∧ p lo ∧ μ[lo]? = some (.lst rows) ∧ rows.length = g.length ∧ ∀ (i : Nat) s, g[i]? = some s → ∃ l, rows[i]? = some (.ref l) ∧ p l ∧ μ[l]? = some (.lst (s.map .str))
def gridD (g : List (List Str)) : D := .lst (g.map fun s => .lst (s.map .str))
section
variable {p q : Nat → Prop} {μ : Mu} {d : D} {g : List (List Str)}
theorem GSee.data : GSee p μ (gridD g) g := ⟨_, .inl rfl, by simp, fun i s e => ⟨_, by rw [List.getElem?_map, e]; rfl, .inl rfl⟩⟩
theorem GSee.imp (h : GSee p μ d g) (hp : ∀ l, p l → q l) : GSee q μ d g := by
  obtain ⟨rows, h1, h2, h3⟩ := h
  exact ⟨rows, h1.imp hp, h2, fun i s e => let ⟨r, a, b⟩ := h3 i s e; ⟨r, a, b.imp hp⟩⟩
theorem GCell.imp (h : GCell p μ d g) (hp : ∀ l, p l → q l) : GCell q μ d g := by
  obtain ⟨lo, rows, h1, h2, h3, h4, h5⟩ := h
  exact ⟨lo, rows, h1, hp _ h2, h3, h4, fun i s e => let ⟨l, a, b, c⟩ := h5 i s e; ⟨l, a, hp _ b, c⟩⟩
theorem get_app {μ ext : Mu} {l : Nat} {c : Cell} (h : μ[l]? = some c) : (μ ++ ext)[l]? = some c := by
  rw [List.getElem?_append_left (List.getElem?_eq_some_iff.mp h).1]; exact h
theorem GCell.set (h : GCell p μ d g) {l : Nat} (hl : ¬ p l) (c : Cell) : GCell p (μ.set l c) d g := by
  obtain ⟨lo, rows, h1, h2, h3, h4, h5⟩ := h
  have q : ∀ m, p m → (μ.set l c)[m]? = μ[m]? := fun m hm => List.getElem?_set_ne (show l ≠ m from fun z => hl (z ▸ hm))
  exact ⟨lo, rows, h1, h2, (q _ h2).trans h3, h4, fun i s e => let ⟨l, a, b, c⟩ := h5 i s e; ⟨l, a, b, (q _ b).trans c⟩⟩
theorem GCell.orc (h : GCell p μ d g) {c c' : Nat × Bool} {ρ : Mu} (e : μ = .orc c :: ρ) : GCell p (.orc c' :: ρ) d g := by
  subst e
  obtain ⟨lo, rows, h1, h2, h3, h4, h5⟩ := h
  have q : ∀ (m : Nat) xs, (Cell.orc c :: ρ)[m]? = some (.lst xs) → (Cell.orc c' :: ρ)[m]? = some (.lst xs) := fun m xs e => by
    cases m with
    | zero => cases e
    | succ m => exact e
  exact ⟨lo, rows, h1, h2, q _ _ h3, h4, fun i s e => let ⟨l, a, b, c⟩ := h5 i s e; ⟨l, a, b, q _ _ c⟩⟩
theorem GSee.orc (h : GSee p μ d g) {c c' : Nat × Bool} {ρ : Mu} (e : μ = .orc c :: ρ) : GSee p (.orc c' :: ρ) d g := by
  subst e
  obtain ⟨rows, h1, h2, h3⟩ := h
  have q : ∀ (d : D) xs, See p (Cell.orc c :: ρ) d xs → See p (Cell.orc c' :: ρ) d xs := fun d xs e => by
    rcases e with e | ⟨l, e1, e2, e3⟩
    · exact .inl e
    · refine .inr ⟨l, e1, e2, ?_⟩
      cases l with
      | zero => cases e3
      | succ m => exact e3
  exact ⟨rows, q _ _ h1, h2, fun i s e => let ⟨r, a, b⟩ := h3 i s e; ⟨r, a, q _ _ b⟩⟩
end
def wid (g : List (List Str)) : Nat := (g.headD []).length
/-- a grid of words: at most n lines a side -/
structure GB (W : List Str) (n : Nat) (g : List (List Str)) : Prop where
  h1 : 1 ≤ g.length
  h2 : g.length ≤ n
  w1 : 1 ≤ wid g
  w2 : wid g ≤ n
  eq : ∀ r ∈ g, r.length = wid g
  mem : ∀ r ∈ g, ∀ x ∈ r, x ∈ W
section
variable {W : List Str} {n : Nat} {g : List (List Str)}
theorem GB.mono {m : Nat} (h : GB W n g) (hm : n ≤ m) : GB W m g := ⟨h.h1, Nat.le_trans h.h2 hm, h.w1, Nat.le_trans h.w2 hm, h.eq, h.mem⟩
end
/-! ### evaluation of small things -/
/-- a comprehension that changes nothing: its items told ahead -/
theorem comp_list {src : Option (Nat × List D)} {g : D → Gam → Mu → (Gam → Prop) → Prop} {tt : DTT} {te : DTE} {Γ : Gam} {μ : Mu} {Q : List D → Mu → Prop} (ys : List D) {ds : List D} (hG : Gd src μ) (hl : ds.length = ys.length) (hs : ds.length ≤ sizeLine)
    (step : ∀ (i : Nat) d y, ds[i]? = some d → ys[i]? = some y → ∀ (K1 : D → Mu → Prop) (K2 : Mu → Prop), K1 y μ → g d Γ μ fun Γ1 => tt Γ1 μ (fun b μ2 => cond b (te Γ1 μ2 K1 fun _ _ => False) (K2 μ2)) fun _ _ => False) (q : Q ys μ) : dCompL src g tt te Γ ds [] μ Q := by
  refine comp_inv (fun i acc μ' => acc = ys.take i ∧ μ' = μ) ⟨by simp, rfl⟩ hs ?_ ?_
  · rintro i d acc μ' hd ⟨rfl, rfl⟩
    have hi : i < ys.length := by rw [← hl]; exact (List.getElem?_eq_some_iff.mp hd).1
    refine ⟨hG, fun K1 K2 k1 k2 => step i d ys[i] hd (List.getElem?_eq_getElem hi) K1 K2 (k1 _ _ ⟨?_, rfl⟩)⟩
    rw [List.take_succ, List.getElem?_eq_getElem hi]; rfl
  · rintro acc μ' ⟨rfl, rfl⟩
    rw [hl, List.take_length]
    exact ⟨hG, q⟩
section
variable {α : Type} {ρ r : List α} {x y z w u : α}
theorem get_a0 : (ρ ++ x :: r)[ρ.length]? = some x := by rw [List.getElem?_append_right (Nat.le_refl _)]; simp
theorem get_a1 : (ρ ++ x :: y :: r)[ρ.length + 1]? = some y := by rw [List.getElem?_append_right (by omega), show ρ.length + 1 - ρ.length = 1 from by omega]; rfl
theorem get_a2 : (ρ ++ x :: y :: z :: r)[ρ.length + 2]? = some z := by rw [List.getElem?_append_right (by omega), show ρ.length + 2 - ρ.length = 2 from by omega]; rfl
theorem get_a3 : (ρ ++ x :: y :: z :: w :: r)[ρ.length + 3]? = some w := by rw [List.getElem?_append_right (by omega), show ρ.length + 3 - ρ.length = 3 from by omega]; rfl
theorem set_a0 : (ρ ++ x :: r).set ρ.length u = ρ ++ u :: r := by rw [List.set_append_right _ _ (Nat.le_refl _)]; simp
theorem set_a1 : (ρ ++ x :: y :: r).set (ρ.length + 1) u = ρ ++ x :: u :: r := by rw [List.set_append_right _ _ (by omega), show ρ.length + 1 - ρ.length = 1 from by omega]; rfl
theorem set_a2 : (ρ ++ x :: y :: z :: r).set (ρ.length + 2) u = ρ ++ x :: y :: u :: r := by rw [List.set_append_right _ _ (by omega), show ρ.length + 2 - ρ.length = 2 from by omega]; rfl
theorem set_a3 : (ρ ++ x :: y :: z :: w :: r).set (ρ.length + 3) u = ρ ++ x :: y :: z :: u :: r := by rw [List.set_append_right _ _ (by omega), show ρ.length + 3 - ρ.length = 3 from by omega]; rfl
end
end DV
local macro_rules | `(tactic| walk_at "dv") => `(tactic| try simp only [DV.dSeq, DV.dIf, DV.dOrT, DV.dAndT, DV.dNotT, DV.dTest, DV.dChain, DV.dC, DV.dCall, DV.gLen, DV.dCons, DV.dVar, DV.dNil, DV.dBin, DV.dUn, DV.gNeg, DV.gIn, DV.gIx, DV.dRet, DV.dRetN, DV.dNext, DV.dFor, DV.dIter, DV.dName, DV.lk, DV.dAsg, DV.dDrop, DV.gLst, DV.gTup, DV.gLstM, DV.gAdd, DV.gI, DV.gMod, DV.gMul, DV.gFdiv, DV.gPow, DV.gAbs, DV.gInt, DV.gList, DV.gTuple, DV.dOp, DV.dOpK, DV.dIsi, DV.tyD, DV.gIs, DV.gIsNot, DV.D.isN, DV.dJoin, DV.dCellM, DV.dSetI, DV.dSlice, DV.dPart, DV.dNoPart, DV.dRevA, DV.dFin, DV.dAugI, DV.dComp, DV.wipeG, DV.cName, DV.cPair, DV.dYes, DV.dRange1, DV.dRange2, DV.dAnd, DV.dOr, DV.dNot, DV.dIfE, DV.gEq, DV.gNe, DV.sgn_one, DV.atI_zero, DV.dTruth, DV.truD, DV.dBreak, DV.dCont, DV.gSorted, DV.dSortK, DV.dRevT, DV.gInD, DV.gIsB, DV.gStr, DV.dPop0, DV.dDict, DV.dPairs, DV.keysD, DV.keyOfD, DV.dFinD, DV.dFld, DV.dSetF, DV.dMake, DV.dMethod, DV.dProp, DV.dOwnIx, DV.dNever, DV.dRaise, DV.dRaise0, DV.gMulM, DV.gAddM, DV.gMax2, DV.dPair, DV.gDGet, DV.dSetD, DV.dDict0, DV.dComp2, DV.dSortSC, DV.isIns, DV.insOf,
  List.getElem?_cons_zero, List.getElem?_cons_succ, List.set_cons_zero, List.set_cons_succ, List.map_cons, List.map_nil, List.length_cons, List.length_nil, List.replicate, List.cons_append, List.nil_append, DV.start0, if_true, if_false, Bool.not_true, Bool.not_false, Bool.false_eq_true, Bool.true_and, Bool.and_true, Bool.or_true, Bool.true_or, Bool.false_or, Bool.or_false, eq_self_iff_true, not_true_eq_false, not_false_eq_true, ite_true, ite_false, cond_true, cond_false])
local macro_rules | `(tactic| walk_at "ix") => `(tactic| try simp only [List.length_append, List.length_cons, List.length_nil, List.length_map, Nat.zero_add, Nat.add_zero, Nat.add_assoc, Nat.reduceAdd, List.getElem?_cons_zero, List.getElem?_cons_succ, List.set_cons_zero, List.set_cons_succ, DV.get_a0, DV.get_a1, DV.get_a2, DV.get_a3, DV.set_a0, DV.set_a1, DV.set_a2, DV.set_a3, List.append_assoc, List.cons_append, List.nil_append])
local macro_rules | `(tactic| walk_at "sz") => `(tactic| (first | decide | omega | (rw [L2.sizeLine_eq]; first | decide | omega | (simp only [List.length_map, List.length_cons, List.length_nil, List.length_append]; omega) | (simp; omega) | simp) | (simp; omega)))
namespace DV
open PySem PySem.Spec PyProof.Rows L2
/-- cells with the oracle at their head -/
abbrev O (c : Nat) (ρ : Mu) : Mu := Cell.orc (c, false) :: ρ
theorem take_O {c : Nat} {ρ : Mu} {m : Int} {Q : D → Mu → Prop} {E : Exn → Mu → Prop} (hc : 0 < c) (hm : 0 < m) (hm2 : m.natAbs < 2 ^ 60) (q : ∀ c' d, c ≤ c' + 1 → 0 ≤ d → d < m → Q (.int d) (O c' ρ)) : S_take [.ref 0, .int m] (O c ρ) Q E :=
  ⟨0, c - 1, m, rfl, by show some (Cell.orc (c, false)) = _; rw [show c - 1 + 1 = c from by omega], hm, Nat.lt_of_lt_of_le (PySem.Flt.log2_lt_of (by decide) hm2) (by decide), fun d h1 h2 => q _ d (by omega) h1 h2⟩
theorem pop_at {xs : List D} {i : Int} (h0 : 0 ≤ i) (h1 : i < xs.length) (hl : xs.length ≤ 1000000) : ∃ y, xs[i.toNat]? = some y ∧ cPop xs [.int i] = some (y, xs.eraseIdx i.toNat) := by
  have h : i.toNat < xs.length := by omega
  refine ⟨xs[i.toNat], List.getElem?_eq_getElem h, ?_⟩
  unfold cPop
  dsimp only
  rw [if_pos (by omega)]
  have e : seqIndex? i xs.length = some i.toNat := by
    unfold seqIndex?
    simp only []
    split
    · rename_i h; omega
    · first | rfl | (split <;> first | rfl | omega) | (simp; omega)
  rw [e]
  dsimp only
  rw [List.getElem?_eq_getElem h]; rfl
theorem perm_pop {α : Type} {xs : List α} {i : Nat} {y : α} (h : xs[i]? = some y) : (y :: xs.eraseIdx i).Perm xs := by
  obtain ⟨h1, rfl⟩ := List.getElem?_eq_some_iff.mp h
  induction xs generalizing i with
  | nil => simp at h1
  | cons a xs ih =>
    cases i with
    | zero => exact .refl _
    | succ i =>
      simp only [List.eraseIdx_cons_succ, List.getElem_cons_succ]
      have h2 : i < xs.length := by simpa using h1
      exact (List.Perm.swap _ _ _).trans ((ih h2 (List.getElem?_eq_getElem h2)).cons a)
theorem append_at {xs : List D} {d : D} (h : xs.length < 1000000) : cAppend xs [d] = some (.non, xs ++ [d]) := by
  unfold cAppend
  dsimp only
  rw [if_pos (by rw [sizeLine_eq]; omega)]
structure WOk (W : List Str) : Prop where
  len : W.length = 6
  nd : W.Nodup
  ok : ∀ x ∈ W, validN x = true
/-! flipped -/
end DV
namespace DV
open PySem PySem.Spec PyProof.Rows L2
/-- rows in cells -/
def RowsAt (p : Nat → Prop) (μ : Mu) (acc : List D) (gs : List (List Str)) : Prop := acc.length = gs.length ∧ ∀ (i : Nat) s, gs[i]? = some s → ∃ l, acc[i]? = some (.ref l) ∧ p l ∧ μ[l]? = some (.lst (s.map .str))
section
variable {p q : Nat → Prop} {μ : Mu} {acc : List D} {gs : List (List Str)}
theorem RowsAt.nil : RowsAt p μ [] [] := ⟨rfl, fun i s e => by simp at e⟩
theorem RowsAt.push (h : RowsAt p μ acc gs) {l : Nat} {s : List Str} (hl : p l) (e : μ[l]? = some (.lst (s.map .str))) : RowsAt p μ (acc ++ [.ref l]) (gs ++ [s]) := by
  refine ⟨by simp [h.1], fun i t et => ?_⟩
  rcases get_app1_lt et with ⟨hi, et⟩ | ⟨hi, rfl⟩
  · obtain ⟨m, a, b, c⟩ := h.2 i t et
    exact ⟨m, by rw [List.getElem?_append_left (by rw [h.1]; exact hi)]; exact a, b, c⟩
  · subst hi
    exact ⟨l, by rw [← h.1]; simp, hl, e⟩
end
end DV
namespace DV
open PySem PySem.Spec PyProof.Rows L2
theorem GB.mk' {W : List Str} {n w : Nat} {g : List (List Str)} (h1 : 1 ≤ g.length) (h2 : g.length ≤ n) (w1 : 1 ≤ w) (w2 : w ≤ n) (h : ∀ r ∈ g, r.length = w ∧ ∀ x ∈ r, x ∈ W) : GB W n g := by
  have e : wid g = w := by
    cases g with
    | nil => simp at h1
    | cons s r => exact (h s (by simp)).1
  exact ⟨h1, h2, e ▸ w1, e ▸ w2, fun r hr => e ▸ (h r hr).1, fun r hr => (h r hr).2⟩
theorem word_at {W : List Str} {t : Int} (h0 : 0 ≤ t) (h1 : t < W.length) : ∃ x ∈ W, atI (W.map D.str) t = some (.str x) := by
  have h : t.toNat < W.length := by omega
  exact ⟨W[t.toNat], List.getElem_mem h, atI_nat' h0 (by rw [List.getElem?_map, List.getElem?_eq_getElem h]; rfl)⟩
end DV
namespace DV
open PySem PySem.Spec PyProof.Rows L2
end DV
namespace DV
open PySem PySem.Spec PyProof.Rows L2
/-- cells: the oracle at their head with c draws left, then ρ as it was, then anything -/
def St (c : Nat) (ρ : Mu) (μ : Mu) : Prop := ∃ ext, μ = O c (ρ ++ ext)
section
variable {c : Nat} {ρ μ : Mu}
theorem St.set (h : St c ρ μ) {l : Nat} (hl : ρ.length + 1 ≤ l) (x : Cell) : St c ρ (μ.set l x) := by
  obtain ⟨ext, rfl⟩ := h
  refine ⟨ext.set (l - (ρ.length + 1)) x, ?_⟩
  obtain ⟨k, rfl⟩ : ∃ k, l = k + 1 := ⟨l - 1, by omega⟩
  show Cell.orc (c, false) :: (ρ ++ ext).set k x = _
  rw [List.set_append_right _ _ (by omega), show k - ρ.length = k + 1 - (ρ.length + 1) from by omega]
theorem St.len (h : St c ρ μ) : ρ.length + 1 ≤ μ.length := by
  obtain ⟨ext, rfl⟩ := h
  simp only [List.length_cons, List.length_append]; omega
end
theorem GSee.any {p : Nat → Prop} {μ : Mu} {d : D} {g : List (List Str)} (h : GSee p μ d g) : GSee (fun _ => True) μ d g := h.imp fun _ _ => trivial
/-- the parts, in their cell -/
def PartsAt (W : List Str) (lp : Nat) (p : Nat → Prop) (μ : Mu) (parts : List D) : Prop := μ[lp]? = some (.lst parts) ∧ ∀ a ∈ parts, ∃ g, GB W 8 g ∧ GCell p μ a g
theorem PartsAt.keep {W : List Str} {lp : Nat} {p : Nat → Prop} {μ μ' : Mu} {parts parts' : List D} (h : PartsAt W lp p μ parts) (h1 : μ'[lp]? = some (.lst parts')) (h2 : ∀ a ∈ parts', a ∈ parts) (h3 : ∀ a g, GCell p μ a g → GCell p μ' a g) : PartsAt W lp p μ' parts' :=
  ⟨h1, fun a ha => let ⟨g, b, c⟩ := h.2 a (h2 a ha); ⟨g, b, h3 a g c⟩⟩
end DV
namespace DV
open PySem PySem.Spec PyProof.Rows L2
/-! smooth_grid -/
theorem GCell.apart {p : Nat → Prop} {μ : Mu} {lo : Nat} {g : List (List Str)} {rows : List D} (h : GCell p μ (.ref lo) g) (e : μ[lo]? = some (.lst rows)) : rows.length = g.length ∧ p lo ∧ ∀ (i : Nat) s, g[i]? = some s → ∃ l, rows[i]? = some (.ref l) ∧ p l ∧ l ≠ lo ∧ μ[l]? = some (.lst (s.map .str)) := by
  obtain ⟨lo', rows', h1, h2, h3, h4, h5⟩ := h
  cases h1
  rw [e] at h3; cases h3
  refine ⟨h4, h2, fun i s es => ?_⟩
  obtain ⟨l, a, b, c⟩ := h5 i s es
  refine ⟨l, a, b, fun z => ?_, c⟩
  subst z
  rw [e] at c; cases c
  rw [List.getElem?_map] at a
  cases hx : s[i]? with
  | none => rw [hx] at a; cases a
  | some x => rw [hx] at a; cases a
theorem get_ins {α : Type} {xs : List α} {t : Nat} {y : α} (ht : t ≤ xs.length) (i : Nat) : (xs.take t ++ [y] ++ xs.drop t)[i]? = if i < t then xs[i]? else if i = t then some y else xs[i - 1]? := by
  have hl : (xs.take t).length = t := by rw [List.length_take]; omega
  by_cases h1 : i < t
  · rw [if_pos h1, List.append_assoc, List.getElem?_append_left (by omega), List.getElem?_take, if_pos h1]
  · rw [if_neg h1]
    by_cases h2 : i = t
    · subst h2
      rw [if_pos rfl, List.append_assoc, List.getElem?_append_right (by omega), hl]; simp
    · rw [if_neg h2, List.getElem?_append_right (by simp; omega)]
      simp only [List.length_append, hl, List.length_cons, List.length_nil, List.getElem?_drop]
      congr 1
      omega
theorem GCell.ins {p : Nat → Prop} {μ : Mu} {lo l t : Nat} {g : List (List Str)} {rows : List D} {s : List Str} (h : GCell p μ (.ref lo) g) (e : μ[lo]? = some (.lst rows)) (ht : t ≤ g.length) (hl : p l) (hne : l ≠ lo) (el : μ[l]? = some (.lst (s.map .str))) :
    GCell p (μ.set lo (.lst (rows.take t ++ [.ref l] ++ rows.drop t))) (.ref lo) (g.take t ++ [s] ++ g.drop t) := by
  obtain ⟨h1, h2, h3⟩ := h.apart e
  have hlt := (List.getElem?_eq_some_iff.mp e).1
  refine ⟨lo, _, rfl, h2, List.getElem?_set_self hlt, by simp [h1], fun i s' es => ?_⟩
  rw [get_ins ht] at es
  have row : ∀ j, g[j]? = some s' → ∃ m, rows[j]? = some (D.ref m) ∧ p m ∧ (μ.set lo (Cell.lst (rows.take t ++ [D.ref l] ++ rows.drop t)))[m]? = some (Cell.lst (s'.map D.str)) := fun j ej => by
    obtain ⟨m, a, b, c, d⟩ := h3 j s' ej
    exact ⟨m, a, b, by rw [List.getElem?_set_ne (Ne.symm c)]; exact d⟩
  rw [get_ins (by omega)]
  split at es
  · rename_i hi
    rw [if_pos hi]; exact row i es
  · rename_i hi
    rw [if_neg hi]
    split at es
    · rename_i hi2
      cases es
      rw [if_pos hi2]
      exact ⟨l, rfl, hl, by rw [List.getElem?_set_ne (Ne.symm hne)]; exact el⟩
    · rename_i hi2
      rw [if_neg hi2]; exact row (i - 1) es
theorem GB.ins {W : List Str} {g : List (List Str)} {s : List Str} {t : Nat} (h : GB W 8 g) (h8 : g.length < 8) (hs : s.length = wid g) (hm : ∀ x ∈ s, x ∈ W) (ht : t ≤ g.length) : GB W 8 (g.take t ++ [s] ++ g.drop t) := by
  refine GB.mk' (w := wid g) (by simp; omega) (by simp; omega) h.w1 h.w2 fun r hr => ?_
  rcases List.mem_append.mp hr with z | z
  · rcases List.mem_append.mp z with z | z
    · exact ⟨h.eq r (List.mem_of_mem_take z), h.mem r (List.mem_of_mem_take z)⟩
    · rw [List.mem_singleton.mp z]; exact ⟨hs, hm⟩
  · exact ⟨h.eq r (List.mem_of_mem_drop z), h.mem r (List.mem_of_mem_drop z)⟩
end DV
namespace DV
open PySem PySem.Spec PyProof.Rows L2
end DV
namespace DV
open PySem PySem.Spec PyProof.Rows L2
/-! ### tables -/
/-- the items of a list or a tuple, as data or in a cell -/
def seqOf (μ : Mu) (d : D) : Option (List D) := match lk μ d with
  | .lst xs => some xs
  | .tup xs => some xs
  | _ => none
/-- rows of texts: lists or tuples -/
def TSee (μ : Mu) (d : D) (g : List (List Str)) : Prop := ∃ rows, seqOf μ d = some rows ∧ rows.length = g.length ∧ ∀ (i : Nat) s, g[i]? = some s → ∃ r, rows[i]? = some r ∧ seqOf μ r = some (s.map .str)
theorem GSee.tsee {p : Nat → Prop} {μ : Mu} {d : D} {g : List (List Str)} (h : GSee p μ d g) : TSee μ d g := by
  obtain ⟨rows, h1, h2, h3⟩ := h
  exact ⟨rows, by unfold seqOf; rw [h1.lk], h2, fun i s e => let ⟨r, a, b⟩ := h3 i s e; ⟨r, a, by unfold seqOf; rw [b.lk]⟩⟩
theorem TSee.data {μ : Mu} {g : List (List Str)} : TSee μ (gridD g) g := (GSee.data (p := fun _ => True)).tsee
def outs (g : List (List Str)) : List Str := sortS (g.flatten.foldl addS [])
/-- the rows of a table -/
structure TOk (g : List (List Str)) : Prop where
  h1 : 1 ≤ g.length
  h2 : g.length ≤ 8
  w1 : 1 ≤ wid g
  w2 : wid g ≤ 8
  eq : ∀ r ∈ g, r.length = wid g
  ok : ∀ r ∈ g, ∀ x ∈ r, validN x = true
  few : (outs g).length ≤ 6
theorem addS_mem {acc : List Str} {x y : Str} : y ∈ addS acc x ↔ y ∈ acc ∨ y = x := by
  unfold addS
  split
  · rename_i h
    constructor
    · exact fun z => .inl z
    · rintro (z | rfl)
      · exact z
      · first | exact h | simpa using h
  · simp [or_comm]
theorem fold_mem {l acc : List Str} {y : Str} : y ∈ l.foldl addS acc ↔ y ∈ acc ∨ y ∈ l := by
  induction l generalizing acc with
  | nil => simp
  | cons a l ih => rw [List.foldl_cons, ih, addS_mem, List.mem_cons, or_assoc]
theorem addS_nodup {acc : List Str} {x : Str} (h : acc.Nodup) : (addS acc x).Nodup := by
  unfold addS
  split
  · exact h
  · rename_i hx
    exact List.nodup_cons.mpr ⟨hx, h⟩
theorem fold_nodup {l acc : List Str} (h : acc.Nodup) : (l.foldl addS acc).Nodup := by
  induction l generalizing acc with
  | nil => exact h
  | cons a l ih => exact ih (addS_nodup h)
theorem outs_mem {g : List (List Str)} {x : Str} : x ∈ outs g ↔ ∃ r ∈ g, x ∈ r := by
  unfold outs
  rw [(sortS_perm _).mem_iff, fold_mem]
  simp [List.mem_flatten]
theorem outs_nodup {g : List (List Str)} : (outs g).Nodup := (sortS_perm _).nodup_iff.mpr (fold_nodup List.nodup_nil)
theorem nodup_sub_len {l m : List Str} (h : l.Nodup) (hs : ∀ x ∈ l, x ∈ m) : l.length ≤ m.length := by
  induction l generalizing m with
  | nil => simp
  | cons a l ih =>
    rw [List.nodup_cons] at h
    have ha : a ∈ m := hs a (by simp)
    have := ih h.2 (m := m.erase a) fun x hx => by
      have hne : x ≠ a := fun z => h.1 (z ▸ hx)
      exact (List.mem_erase_of_ne hne).mpr (hs x (by simp [hx]))
    rw [List.length_erase_of_mem ha] at this
    have hp : 0 < m.length := List.length_pos_iff.mpr (fun z => by rw [z] at ha; cases ha)
    rw [List.length_cons]; omega
theorem GB.tok {W : List Str} {g : List (List Str)} (h : GB W 8 g) (hW : WOk W) : TOk g := ⟨h.h1, h.h2, h.w1, h.w2, h.eq, fun r hr x hx => hW.ok x (h.mem r hr x hx), by
  have := nodup_sub_len (outs_nodup (g := g)) (m := W) fun x hx => by
    obtain ⟨r, hr, hx⟩ := outs_mem.mp hx
    exact h.mem r hr x hx
  rw [hW.len] at this; exact this⟩
end DV
local macro_rules | `(tactic| walk_at "dv") => `(tactic| try simp only [DV.dSeq, DV.dIf, DV.dOrT, DV.dAndT, DV.dNotT, DV.dTest, DV.dChain, DV.dC, DV.dCall, DV.gLen, DV.dCons, DV.dVar, DV.dNil, DV.dBin, DV.dUn, DV.gNeg, DV.gIn, DV.gIx, DV.dRet, DV.dRetN, DV.dNext, DV.dFor, DV.dIter, DV.dName, DV.lk, DV.dAsg, DV.dDrop, DV.gLst, DV.gTup, DV.gLstM, DV.gAdd, DV.gI, DV.gMod, DV.gMul, DV.gFdiv, DV.gPow, DV.gAbs, DV.gInt, DV.gList, DV.gTuple, DV.dOp, DV.dOpK, DV.dIsi, DV.tyD, DV.gIs, DV.gIsNot, DV.D.isN, DV.dJoin, DV.dCellM, DV.dSetI, DV.dSlice, DV.dPart, DV.dNoPart, DV.dRevA, DV.dFin, DV.dAugI, DV.dComp, DV.wipeG, DV.cName, DV.cPair, DV.dYes, DV.dRange1, DV.dRange2, DV.dAnd, DV.dOr, DV.dNot, DV.dIfE, DV.gEq, DV.gNe, DV.sgn_one, DV.atI_zero, DV.dTruth, DV.truD, DV.dBreak, DV.dCont, DV.gSorted, DV.dSortK, DV.dRevT, DV.gInD, DV.gIsB, DV.gStr, DV.dPop0, DV.dDict, DV.dPairs, DV.keysD, DV.keyOfD, DV.dFinD, DV.dFld, DV.dSetF, DV.dMake, DV.dMethod, DV.dProp, DV.dOwnIx, DV.dNever, DV.dRaise, DV.dRaise0, DV.gMulM, DV.gAddM, DV.gMax2, DV.dPair, DV.gDGet, DV.dSetD, DV.dDict0, DV.dComp2, DV.dSortSC, DV.isIns, DV.insOf,
  List.getElem?_cons_zero, List.getElem?_cons_succ, List.set_cons_zero, List.set_cons_succ, List.map_cons, List.map_nil, List.length_cons, List.length_nil, List.replicate, Nat.sub_self, List.append_nil, List.cons_append, List.nil_append, DV.start0, if_true, if_false, Bool.not_true, Bool.not_false, Bool.false_eq_true, Bool.true_and, Bool.and_true, Bool.or_true, Bool.true_or, Bool.false_or, Bool.or_false, eq_self_iff_true, not_true_eq_false, not_false_eq_true, ite_true, ite_false, cond_true, cond_false])
namespace DV
open PySem PySem.Spec PyProof.Rows L2
theorem deq_str {μ : Mu} {a b : Str} (ha : asc a) (hb : asc b) : deqOk μ (.str a) (.str b) ∧ deq μ (.str a) (.str b) = decide (a = b) := by
  refine ⟨⟨asc_ok ha, asc_ok hb⟩, ?_⟩
  unfold deq
  show PyData.eqv (.str a) (.str b) = _
  simp only [PyData.eqv]
  by_cases h : a = b
  · subst h; simp
  · simp [h]
def isInt : D → Bool
  | .int _ => true
  | _ => false
def S_is_integer : DSp := fun ds μ Q _ => ∃ d, ds = [d] ∧ (∃ t, tyD (lk μ d) = some t) ∧ Q (.bl (isInt d)) μ
def t_is_integer : DTS := dRet (dAnd (dIsi .int (dVar 0)) (dNot (dIsi .bool (dVar 0))))
theorem rd_is_integer {n1 : Str} : ∀ ds μ Q E, S_is_integer ds μ Q E → t_is_integer (dFn μ Q E) (start0 [n1] ds) μ := by
  rintro _ μ Q E ⟨d, rfl, ⟨t, ht⟩, q⟩
  have e0 : isInt d = (Ty.sub t .int && !Ty.sub t .bool) := by
    cases d with
    | ref l =>
      cases e : lk μ (.ref l) with
      | int i => have := lk_int e; cases this
      | bl i => rcases lk_ref e (by simp) with ⟨_, _, z⟩ | ⟨_, _, z⟩ | ⟨_, _, _, z⟩ <;> cases z
      | _ => rw [e] at ht; cases ht <;> rfl
    | _ => cases ht <;> rfl
  rw [e0] at q
  unfold t_is_integer
  simp only [dRet, dAnd, dIsi, dNot, dVar, start0, List.map_cons, List.map_nil, List.length_cons, List.length_nil, List.replicate, List.cons_append, List.nil_append, List.getElem?_cons_zero, ht]
  cases h1 : Ty.sub t .int with
  | false => rw [h1] at q; exact FnEnd.here q
  | true => rw [h1] at q; exact FnEnd.here q
def t_check_number : DTS := dIf (dNotT (dTest (dChain (fun i j => decide (i ≤ j)) (fun i j => decide (i ≤ j)) (dC (.int 1)) (dVar 0) (dC (.int 6))))) (dRaise .BadCount "count" (dVar 0)) (dNext)
end DV
namespace DV
open PySem PySem.Spec PyProof.Rows L2
end DV
namespace DV
open PySem PySem.Spec PyProof.Rows L2
def cell (g : List (List Str)) (i j : Nat) : Str := (g.getD i []).getD j Str.empty
theorem cell_get {g : List (List Str)} {i j : Nat} (hi : i < g.length) (hj : j < wid g) (he : ∀ r ∈ g, r.length = wid g) : ∃ s, g[i]? = some s ∧ s[j]? = some (cell g i j) ∧ cell g i j ∈ s ∧ s ∈ g := by
  have hs : j < g[i].length := by rw [he _ (List.getElem_mem hi)]; exact hj
  have e : cell g i j = g[i][j] := by
    unfold cell
    rw [show g.getD i [] = g[i] from by rw [List.getD_eq_getElem?_getD, List.getElem?_eq_getElem hi]; rfl, List.getD_eq_getElem?_getD, List.getElem?_eq_getElem hs]; rfl
  exact ⟨g[i], List.getElem?_eq_getElem hi, by rw [e]; exact List.getElem?_eq_getElem hs, by rw [e]; exact List.getElem_mem hs, List.getElem_mem hi⟩
end DV
namespace DV
open PySem PySem.Spec PyProof.Rows L2
theorem TOk.asc {g : List (List Str)} (h : TOk g) {i j : Nat} (hi : i < g.length) (hj : j < wid g) : asc (cell g i j) := by
  obtain ⟨s, _, _, h3, h4⟩ := cell_get hi hj h.eq
  exact (valid_asc (h.ok s h4 _ h3)).1
/-! the law's own look -/
end DV
/-! enumerate of a tuple, at the library's level and above. -/
namespace PySem
open Sem (wp)
open AutoSeq1 (wpAny_loadPart')
end PySem
namespace DV
open PySem PySem.Spec PyProof.Rows L2
end DV
/-! any, all, isinstance with an own class, chains of three. -/
namespace DV
open PySem PySem.Spec PyProof.Rows L2
end DV
namespace DV
open PySem PySem.Spec PyProof.Rows L2
theorem FnExc.here {μ : Mu} {x : Exn} {E : Exn → Mu → Prop} (hp : D.puF x.fs = true) (h : E x μ) : FnExc μ x μ E := ⟨μ, [], by simp, Upd.refl μ, hp, h⟩
end DV
namespace DV
open PySem PySem.Spec PyProof.Rows L2
def untup : D → List Str
  | .tup xs => xs.filterMap fun d => match d with | .str x => some x | _ => none
  | _ => []
def setsS (xs : List Str) : List (List Str) := (setsD xs).map untup
def rest (xs w : List Str) : List Str := xs.filter fun x => decide (x ∉ w)
theorem pu_tupS (l : List Str) : (tupS l).pu = true := by
  show D.puL (l.map .str) = true
  rw [puL_iff]; intro d hd; obtain ⟨x, _, rfl⟩ := List.mem_map.mp hd; rfl
end DV
namespace DV
open PySem PySem.Spec PyProof.Rows L2
/-! ### copied -/
/-! ### Verdict -/
/-! ### judge -/
end DV
namespace DV
open PySem PySem.Spec PyProof.Rows L2
end DV
namespace DV
open PySem PySem.Spec PyProof.Rows L2
end DV
namespace DV
open PySem PySem.Spec PyProof.Rows L2
/-! ### turned, slim -/
end DV
namespace DV
open PySem PySem.Spec PyProof.Rows L2
theorem leS (a b : Str) : leBy id (.str a) (.str b) = decide (a.cps.toList ≤ b.cps.toList) := by
  have := congrFun (congrFun (PySem.W.dataLe_str (fun s : Str => s)) a) b
  exact this
theorem sortS_sorted (xs : List Str) : List.Pairwise (fun a b => leBy id (.str a) (.str b) = true) (sortS xs) := by
  refine List.pairwise_mergeSort (fun a b c h1 h2 => ?_) (fun a b => ?_) xs
  · rw [leS, decide_eq_true_eq] at *
    exact List.le_trans h1 h2
  · rw [leS, leS, Bool.or_eq_true, decide_eq_true_eq, decide_eq_true_eq]
    exact List.le_total _ _
theorem str_ext2 {a b : Str} (h : a.cps.toList = b.cps.toList) : a = b := by
  cases a; cases b
  simp only at h
  congr 1
  exact Array.ext' h
theorem sortS_eq2 {xs ys : List Str} (h : xs.Perm ys) : sortS xs = sortS ys := by
  refine List.Perm.eq_of_pairwise (fun a b _ _ h1 h2 => ?_) (sortS_sorted xs) (sortS_sorted ys) (((sortS_perm xs).trans h).trans (sortS_perm ys).symm)
  rw [leS, decide_eq_true_eq] at h1 h2
  exact str_ext2 (List.le_antisymm h1 h2)
end DV
namespace DV
open PySem PySem.Spec PyProof.Rows L2
end DV
/-! Dicts: k in d, dict(d), list(d), tuple(d), sorted(d). -/
namespace PySem
open Sem (wp)
open AutoSeq1 (wpAny_loadPart')
section
variable {prog : Program} {w : World} {A : Around} {E : Value → Shared → Prop} {s : Shared} {d : Addr} {n : Nat} {P : Nat → Value → Prop} {OK : Heap → Prop}
theorem dv_code_tuple_dict {Q₁ : Value → Shared → Prop} (K : PySem.W.KdlSrc prog w "dict" d d n P OK) (hh : A.handled = none) (hok : OK s.heap) (hsz : n ≤ sizeLine)
    (h : ∀ (h' : Heap) (tk : Nat) (acc : Array Value), (∀ b o, s.heap.get? b = some o → h'.get? b = some o) → ItemsOf P acc n → Q₁ (.ref h'.objs.size) { s with heap := h'.push { cls := .type "tuple", data := .seq acc }, toks := tk }) :
    codeAny (model prog w) A (.call (.builtin "tuple.__new__") ⟨[.type "tuple", .ref d], []⟩) (wants Q₁ E) s := by
  refine codeAny_of_tree ?_
  show wpAny _ A.in1 (do checkBuiltinCall "tuple.__new__" ⟨[.type "tuple", .ref d], []⟩; again (.builtin "tuple.__new__" ⟨[.type "tuple", .ref d], []⟩)) _ _ s
  refine wpAny_bind (wpAny_of_eq (F.newCall_tuple_1 _) (wpAny_pure ⟨plainId_quiet F.plain_tuple_new _, codeAny_builtin F.entry_tuple_new ?_⟩))
  rw [Around.under_plainId F.plain_tuple_new _]
  have hsub := sub_tuple_self
  have hinit := init_tuple_lookup
  have hmh := madeHere_tuple
  have hTI := K.type s hok
  have hh1 : A.in1.handled = none := hh
  wp_walk using wpAny_typeOf hTI, PySem.W.kdu_collect (A := A.in1) K hh1 hok hsz
  intro h' tk acc hk hacc
  show wpAny _ _ (Builtin.Tuple.tupleExact acc.toList.toArray >>= fun v => ret v) _ _ _
  unfold Builtin.Tuple.tupleExact
  refine wpAny_bind (wpAny_newObj_type ?_ (by show acc.toList.toArray.size ≤ sizeLine; simp only [Array.toArray_toList]; rw [hacc.1]; exact hsz))
  refine wpAny_pure ?_
  have e : acc.toList.toArray = acc := by simp
  rw [e]
  exact h h' tk acc hk hacc
theorem dv_call_tuple_dict {Q : Value → Shared → Prop} (K : PySem.W.KdlSrc prog w "dict" d d n P OK) (hh : A.handled = none) (hok : OK s.heap) (hsz : n ≤ sizeLine)
    (hQ : ∀ (h' : Heap) (tk : Nat) (acc : Array Value), (∀ b o, s.heap.get? b = some o → h'.get? b = some o) → ItemsOf P acc n → Q (.ref h'.objs.size) { s with heap := h'.push { cls := .type "tuple", data := .seq acc }, toks := tk }) :
    wpAny (model prog w) A (call (.type "tuple") [.ref d]) Q E s := by
  refine callType_codes (Q₁ := fun obj s₁ => s₁.TypeIs obj "tuple" ∧ Q obj s₁) F.called_tuple (F.typeCall_tuple_1 _) F.entry_object_init
    (dv_code_tuple_dict K hh hok hsz fun h' tk acc hk hacc => ⟨⟨_, Heap.get?_push_size _ rfl, rfl⟩, hQ h' tk acc hk hacc⟩) fun obj s₁ h₁ => ?_
  exact ⟨h₁.1, F.args_object_init_2 obj _, object_init_meets F.called_tuple.init.lookup F.called_tuple.made (by decide) prog w A.in1 _ s₁ ⟨h₁.1, rfl, h₁.2⟩⟩
end
end PySem
namespace DV
open PySem PySem.Spec PyProof.Rows L2
section
variable {X : Cx} {W : WX} {a b : Expr} {p pos : Pos} {fa fb : DTE}
theorem dt_dinG {t : TE} {op : CmpOp} {neg : Bool} (hp : PT X (.Compare a [op] [b] pos) (tTest t)) (ht : ∀ σ H Q, (lift X.K W fa σ H fun y H1 => lift X.K W fb σ H1 fun x H2 => ∃ c o, x = .ref c ∧ DGet H2 c y o ∧ Q (.bl (if neg then !o.isSome else o.isSome)) H2) → t σ H Q) : DT X W (.Compare a [op] [b] pos) (dTest (dBin (gDIn neg) fa fb)) :=
  PT.imp hp fun σ H Q ⟨n, Γ, μ, Qd, Ed, hH, sr, gr, h, hq, hx⟩ => by
  subst hH
  unfold tTest
  refine ht σ n.H _ (lift_go sr gr h (fun n1 y dy μ1 s1 r1 p1 q1 => lift_go r1 (gr.step s1) q1 (fun n2 x dx μ2 s2 r2 p2 q2 => ?_) (hx.step s1)) hx)
  unfold gDIn at q2
  split at q2
  · rename_i kvs k e1 e2
    obtain ⟨c, us, rfl, h1, h2, h3⟩ := see_dct r2 p2 e1
    have hk := key_rep (s2.rep p1) e2
    subst hk
    refine ⟨c, valV us k, rfl, .inl ⟨us, k, h1, rfl, rfl⟩, ?_⟩
    rw [sm_val ⟨h2, h3⟩]
    exact ⟨_, rfl, hq n2 _ μ2 (s1.trans s2) r2 q2⟩
  · exact q2.elim
theorem dt_dnotin (hu : X.A.units + 1 < cLine) (ha : DE X W a fa) (hb : DE X W b fb) (hm : behindInMarks .NotIn b = false := by with_unfolding_all rfl) : DT X W (.Compare a [.NotIn] [b] pos) (dTest (dBin (gDIn true) fa fb)) :=
  dt_dinG (pt_cmp (pc_dnotin hu ha hb) hm) fun σ H Q h => h
/-- keys as data -/
def kD : Key → D
  | .inl i => .int i
  | .inr x => .str x
theorem reps_keys {K : PySem.W.Frag} {Hb : Hp} {al : List Addr} : ∀ (ks : List Key), Reps K Hb al (ks.map kV) (ks.map kD)
  | [] => .nil
  | .inl i :: ks => .cons (.int i) (reps_keys ks)
  | .inr x :: ks => .cons (.str x) (reps_keys ks)
def gListD (fz : Bool) : GN := fun ds μ Q => match ds with
  | [d] => (match lk μ d with
    | .dct kvs => dFin fz (kvs.map fun kv => kD kv.1) μ Q
    | _ => False)
  | _ => False
theorem de_listD (fz : Bool) (hc : X.calm = true) (hg : Gl X "list") (hm : X.mg "list" = none) (ha : DE X W a fa) (hs : starEach [a] X.env = (false, eval a X.env) :: starEach [] X.env := by rfl) : DE X W (.Call (.Name "list" p) [a] [] pos) (dCall (gListD fz) (dCons fa dNil)) :=
  de_callTy (call_listD hc) (fun n μ xs ds Qd Q s r q l => by
    unfold gListD at q
    split at q
    · cases r with
      | cons r1 r2 =>
        cases r2
        split at q
        · rename_i kvs e
          obtain ⟨c, us, rfl, h1, h2, h3⟩ := see_dct s r1 e
          refine ⟨c, us, rfl, h1, fun p hp => fin_lst l s hp ?_ q⟩
          have e1 : (us.map fun kv => kV kv.1) = (kvs.map (·.1)).map kV := by rw [h2, List.map_map]; rfl
          have e2 : (kvs.map fun kv => kD kv.1) = (kvs.map (·.1)).map kD := by rw [List.map_map]; rfl
          rw [e1, e2]; exact reps_keys _
        · exact q.elim
    · exact q.elim) hg hm (by decide +kernel) (da_cons ha da_nil hs) (he := hs)
theorem cr_tupleD (hcalm : X.calm = true) : CallR X (.type "tuple") (fun xs H Q => ∃ (a : Addr) (kvs : List (Key × V)), xs = [.ref a] ∧ Rd H a (.dK kvs) ∧ ∀ p, H p = none → Q (.ref p) (upd H p (.tup (kvs.map fun kv => kV kv.1)))) := by
  intro pins s σ H xs us Q I r q
  obtain ⟨a, kvs, ex, hd, q⟩ := q
  subst ex
  obtain ⟨u, eu, rx⟩ := vals1 r
  subst eu
  cases rx
  obtain ⟨z, lo, vs, rel, dd⟩ := dk_rd I.hok hd
  obtain ⟨ep, hat⟩ := dd.dictAt
  have ek : (kvs.map fun kv => kV kv.1) = vs.map fun p => kV p.1 := by
    have e := congrArg (List.map kV) rel.keys
    rw [List.map_map, List.map_map] at e
    exact e
  refine PySem.dv_call_tuple_dict (PySem.W.kdl_dict (knd := mixKind X.prog X.w) (kvs := vs) (ep := ep) lo) (I.ok.hd hcalm) hat (by rw [← rel.length]; exact z) fun h' tk acc hk hacc => ?_
  have hv : Vals (vs.map fun p => kV p.1) acc.toList := keys_at (by rw [Array.length_toList]; exact hacc.1) fun j v e => hacc.2 j v (by rw [← Array.getElem?_toList]; exact e)
  have I1 : Inv X pins σ H { s with heap := h', toks := tk } := I.kept hk
  refine ⟨.ref h'.objs.size, upd H h'.objs.size (.tup (kvs.map fun kv => kV kv.1)), I1.laid (t' := tk) (fun b u e => Heap.get?_push_of_some _ e) (Nat.le_refl _)
    (show ObjOk X.prog X.w _ _ _ (.tup (kvs.map fun kv => kV kv.1)) from ⟨by rw [List.length_map]; exact z, acc.toList, by rw [ek]; exact hv, ⟨_, Heap.get?_push_size _ rfl, rfl, _, by rw [Array.toArray_toList]⟩⟩), rfl, q _ (I1.hok.fresh (Nat.le_refl _))⟩
def gTupleD : GN := fun ds μ Q => match ds with
  | [d] => (match lk μ d with
    | .dct kvs => Q (.tup (kvs.map fun kv => kD kv.1)) μ
    | _ => False)
  | _ => False
theorem de_tupleD (hc : X.calm = true) (hg : Gl X "tuple") (hm : X.mg "tuple" = none) (ha : DE X W a fa) (hs : starEach [a] X.env = (false, eval a X.env) :: starEach [] X.env := by rfl) : DE X W (.Call (.Name "tuple" p) [a] [] pos) (dCall gTupleD (dCons fa dNil)) :=
  de_callTy (cr_tupleD hc) (fun n μ xs ds Qd Q s r q l => by
    unfold gTupleD at q
    split at q
    · cases r with
      | cons r1 r2 =>
        cases r2
        split at q
        · rename_i kvs e
          obtain ⟨c, us, rfl, h1, h2, h3⟩ := see_dct s r1 e
          refine ⟨c, us, rfl, h1, fun p hp => new_tup l s hp ?_ q⟩
          have e1 : (us.map fun kv => kV kv.1) = (kvs.map (·.1)).map kV := by rw [h2, List.map_map]; rfl
          have e2 : (kvs.map fun kv => kD kv.1) = (kvs.map (·.1)).map kD := by rw [List.map_map]; rfl
          rw [e1, e2]; exact reps_keys _
        · exact q.elim
    · exact q.elim) hg hm (by decide +kernel) (da_cons ha da_nil hs) (he := hs)
theorem le_iff {a b : Str} : leBy id (.str a) (.str b) = true ↔ a.cps.toList ≤ b.cps.toList := by
  have := congrFun (congrFun (PySem.W.dataLe_str (fun s : Str => s)) a) b
  rw [show leBy id (.str a) (.str b) = decide (a.cps.toList ≤ b.cps.toList) from this, decide_eq_true_eq]
theorem rising_pw : ∀ (l : List Str) (p : Str), risingS p l = true → (∀ x ∈ l, p.cps.toList ≤ x.cps.toList) ∧ l.Pairwise fun a b => a.cps.toList ≤ b.cps.toList
  | [], p, _ => ⟨(fun x h => by cases h), .nil⟩
  | x :: r, p, h => by
    simp only [risingS, Bool.and_eq_true, Bool.not_eq_true'] at h
    obtain ⟨h1, h2⟩ := h
    rw [ltCps_eq, decide_eq_false_iff_not] at h1
    have hp : p.cps.toList ≤ x.cps.toList := h1
    obtain ⟨i1, i2⟩ := rising_pw r x h2
    refine ⟨fun y hy => ?_, .cons i1 i2⟩
    rcases List.mem_cons.mp hy with rfl | hy
    · exact hp
    · exact List.le_trans hp (i1 y hy)
theorem sortS_of {ys ks : List Str} (hp : ys.Perm ks) (hs : sortedS ys = true) : ys = sortS ks := by
  have pw : ys.Pairwise fun a b => a.cps.toList ≤ b.cps.toList := by
    cases ys with
    | nil => exact .nil
    | cons x r => obtain ⟨a, b⟩ := rising_pw r x hs; exact .cons a b
  have ps : (sortS ks).Pairwise fun a b => a.cps.toList ≤ b.cps.toList := by
    have : List.Pairwise (fun a b => leBy id (.str a) (.str b) = true) (sortS ks) := by
      refine List.pairwise_mergeSort (fun a b c h1 h2 => ?_) (fun a b => ?_) ks
      · rw [le_iff] at *; exact List.le_trans h1 h2
      · rw [Bool.or_eq_true, le_iff, le_iff]; exact List.le_total _ _
    exact this.imp fun h => le_iff.mp h
  refine List.Perm.eq_of_pairwise (fun a b _ _ h1 h2 => str_ext (List.le_antisymm h1 h2)) pw ps (hp.trans (sortS_perm ks).symm)
/-- text keys -/
def keysS : List (Key × D) → Option (List Str)
  | [] => some []
  | (.inr x, _) :: r => (keysS r).map (x :: ·)
  | (.inl _, _) :: _ => none
theorem keysS_eq : ∀ {kvs : List (Key × D)} {ks : List Str}, keysS kvs = some ks → kvs.map (·.1) = ks.map Sum.inr
  | [], ks, h => by cases h; rfl
  | (.inr x, _) :: r, ks, h => by
    unfold keysS at h
    obtain ⟨l, h1, rfl⟩ := Option.map_eq_some_iff.mp h
    rw [List.map_cons, keysS_eq h1]; rfl
  | (.inl _, _) :: _, ks, h => by cases h
def gSortedD (fz : Bool) : GN := fun ds μ Q => match ds with
  | [d] => (match lk μ d with
    | .dct kvs => (match keysS kvs with
      | some ks => ks.length < 64 ∧ dFin fz ((sortS ks).map .str) μ Q
      | none => False)
    | _ => False)
  | _ => False
theorem de_sortedD (fz : Bool) (hc : X.calm = true) (hg : Gl X "sorted") (hm : X.mg "sorted" = none) (ha : DE X W a fa) (hs : starEach [a] X.env = (false, eval a X.env) :: starEach [] X.env := by rfl) : DE X W (.Call (.Name "sorted" p) [a] [] pos) (dCall (gSortedD fz) (dCons fa dNil)) :=
  de_callB (call_sortedD hc) (fun n μ xs ds Qd Q s r q l => by
    unfold gSortedD at q
    split at q
    · cases r with
      | cons r1 r2 =>
        cases r2
        split at q
        · rename_i kvs e
          split at q
          · rename_i ks ek
            obtain ⟨c, us, rfl, h1, h2, h3⟩ := see_dct s r1 e
            refine ⟨c, us, ks, rfl, h1, by rw [← h2]; exact keysS_eq ek, q.1, fun ys p hp hso hn => ?_⟩
            rw [sortS_of hp hso]
            exact fin_lst l s hn (reps_strs _) q.2
          · exact q.elim
        · exact q.elim
    · exact q.elim) hg hm (by decide +kernel) (da_cons ha da_nil hs) (he := hs)
theorem fin_dct {K : PySem.W.Frag} {n : Now} {Qd : D → Mu → Prop} {Q : VK} {fz : Bool} (l : LV K n Qd Q) {μ : Mu} (s : SR0 K n μ) {p : Addr} {us : List (Key × V)} {kvs : List (Key × D)} (hp : n.H p = none) (h2 : kvs.map (·.1) = us.map (·.1)) (h3 : Reps K n.Hb n.al (us.map (·.2)) (kvs.map (·.2))) (q : dFinD fz kvs μ Qd) : Q (.ref p) (upd n.H p (.dK us)) := by
  unfold dFinD at q
  cases fz with
  | true =>
    refine l (n.fix p (.dK us)) _ (.dct kvs) μ (Step.fix s hp) (s.fix hp) ?_ q
    have z : Rep K (upd n.Hb p (.dK us)) n.al (.ref p) (.dct ((us.map (·.1)).zip (kvs.map (·.2)))) := .dct (.inl upd_same) rfl (h3.mono (same_upd (s.hb hp)) (List.prefix_refl _))
    rw [zip_maps _ _ h2] at z
    exact z
  | false =>
    refine l (n.cell p (.dK us)) _ (.ref μ.length) (μ ++ [.dct kvs]) (Step.cell hp) (s.cellN hp (c := .dct kvs) ⟨s.hb hp, us, upd_same, h2, h3.mono (Same.refl _) (List.prefix_append _ _)⟩ (fun k z => by cases z)) (.ref ?_) q
    show (n.al ++ [p])[μ.length]? = _
    rw [← s.len]; simp
def gDictC (fz : Bool) : GN := fun ds μ Q => match ds with
  | [d] => (match lk μ d with
    | .dct kvs => dFinD fz kvs μ Q
    | _ => False)
  | _ => False
theorem de_dictC (fz : Bool) (hg : Gl X "dict") (hm : X.mg "dict" = none) (ha : DE X W a fa) (hs : starEach [a] X.env = (false, eval a X.env) :: starEach [] X.env := by rfl) : DE X W (.Call (.Name "dict" p) [a] [] pos) (dCall (gDictC fz) (dCons fa dNil)) :=
  de_callTy call_dictD (fun n μ xs ds Qd Q s r q l => by
    unfold gDictC at q
    split at q
    · cases r with
      | cons r1 r2 =>
        cases r2
        split at q
        · rename_i kvs e
          obtain ⟨c, us, rfl, h1, h2, h3⟩ := see_dct s r1 e
          exact ⟨c, us, rfl, h1, fun p hp => fin_dct l s hp h2 h3 q⟩
        · exact q.elim
    · exact q.elim) hg hm (by decide +kernel) (da_cons ha da_nil hs) (he := hs)
end
end DV
/-! set(xs) of texts; sorted(set(xs)). -/
namespace DV
open PySem PySem.Spec PyProof.Rows L2 PySem.Froz
end DV
namespace DV
open PySem PySem.Spec PyProof.Rows L2
theorem loop_stop {α : Type} {src : Option (Nat × List D)} {g : DTG} {body : DTS} {De : DEnds} {μ : Mu} (P : Gam → Prop) (enc : α → D) (bad : α → Bool) (R : α → Prop) (hG : Gd src μ) : ∀ (xs : List α) (Γ : Gam), P Γ →
    (∀ x ∈ xs, ∀ Γ, P Γ → ∀ Kn : Gam → Mu → Prop, (bad x = true → R x) → (bad x = false → ∀ Γ', P Γ' → Kn Γ' μ) → g (enc x) Γ μ (fun Γ1 μ1 => body { De with nx := Kn, ct := Kn, bk := De.nx } Γ1 μ1) (fun e μ1 => De.ex e Γ μ1)) →
    (∀ x, xs.find? bad = some x → R x) → (xs.find? bad = none → ∀ Γ', P Γ' → De.nx Γ' μ) → dLoop src g body (xs.map enc) De Γ μ
  | [], Γ, hP, _, _, h2 => ⟨hG, h2 rfl Γ hP⟩
  | x :: xs, Γ, hP, hs, h1, h2 => by
    refine ⟨hG, hs x (by simp) Γ hP _ (fun hr => h1 x (by simp [List.find?_cons, hr])) fun hn Γ' hP' => ?_⟩
    exact loop_stop P enc bad R hG xs Γ' hP' (fun y hy => hs y (by simp [hy])) (fun r hr => h1 r (by simp [List.find?_cons, hn, hr])) (fun hr => h2 (by simp [List.find?_cons, hn, hr]))
theorem comp_filtS {src : Option (Nat × List D)} {v : Nat} {tt : DTT} {Γ : Gam} {μ : Mu} {Q : List D → Mu → Prop} (p : Str → Bool) (hG : Gd src μ) (xs : List Str) (hv : v < Γ.length) (hl : xs.length ≤ 1000)
    (ht : ∀ x ∈ xs, ∀ K : Bool → Mu → Prop, K (p x) μ → tt (Γ.set v (some (.str x))) μ K (fun _ _ => False)) (q : Q ((xs.filter p).map .str) μ) : dCompL src (cName v) tt (dVar v) Γ (xs.map .str) [] μ Q := by
  refine comp_pure (fun d => match d with | .str t => p t | _ => false) id hG _ [] (fun x hx K1 K2 k => ?_) (by simp only [List.length_map, List.length_nil, sizeLine_eq]; omega) ?_
  · obtain ⟨t, hx2, rfl⟩ := List.mem_map.mp hx
    simp only [cName]
    refine ht t hx2 _ ?_
    cases hp : p t with
    | true =>
      simp only [hp, cond_true] at k ⊢
      simp only [dVar, List.getElem?_set_self hv]
      exact k
    | false =>
      simp only [hp, cond_false] at k ⊢
      exact k
  · rw [List.nil_append, List.map_id, List.filter_map]
    exact q
end DV
/-! for k in d, for k, v in d.items(): the dict is data, and is locked for ever when it is first walked. -/
namespace DV
open PySem PySem.Spec PyProof.Rows L2
section
variable {K : PySem.W.Frag} {Hb : Hp} {al : List Addr} {a : Addr} {us : List (Key × V)} {o : Obj}
theorem lock_same (h : Hb a = some (.dK us)) : SameL Hb (upd Hb a (.frz o (.dK us))) := fun b u e => by
  by_cases hb : b = a
  · subst hb
    rw [h] at e; cases e
    exact .inr ⟨us, o, rfl, upd_same⟩
  · exact .inl (by rw [upd_ne hb]; exact e)
theorem SR0.lock {n : Now} {μ : Mu} (s : SR0 K n μ) (h : n.Hb a = some (.dK us)) : SR0 K (n.fix a (.frz o (.dK us))) μ ∧ Step n (n.fix a (.frz o (.dK us))) := by
  have hs := lock_same (o := o) h
  have hH := s.same _ _ h
  refine ⟨⟨same_upd2 s.same, s.len, s.nd, fun i b c e1 e2 => ?_, fun b hb => ?_, s.orc1, fun b hb => ?_⟩, ⟨hs, List.prefix_refl _, fun b u e => ?_, fun b hb => .inl hb, fun b hb => .inl hb, fun b u e e0 _ _ => ?_, fun b e => ?_⟩⟩
  · have q := s.cell i b c e1 e2
    have ne : n.Hb b = none → b ≠ a := fun z y => by rw [y, h] at z; cases z
    cases c with
    | gone => trivial
    | lst ds => obtain ⟨h0, vs, h1, h2⟩ := q; exact ⟨(upd_ne (ne h0)).trans h0, vs, (upd_ne (ne h0)).trans h1, h2.monoL hs (List.prefix_refl _)⟩
    | dct ds => obtain ⟨h0, vs, h1, hk, h2⟩ := q; exact ⟨(upd_ne (ne h0)).trans h0, vs, (upd_ne (ne h0)).trans h1, hk, h2.monoL hs (List.prefix_refl _)⟩
    | ins C ds => obtain ⟨h0, dx, vs, h1, hk, h2⟩ := q; exact ⟨(upd_ne (ne h0)).trans h0, dx, vs, (upd_ne (ne h0)).trans h1, hk, h2.monoL hs (List.prefix_refl _)⟩
    | orc k => obtain ⟨h0, h1⟩ := q; exact ⟨(upd_ne (ne h0)).trans h0, h1.grow (upd_ne (ne h0)) fun b hb => upd_ne (fun z => by have := (s.phb b hb).1; rw [z, h] at this; cases this)⟩
    | exc dd fs => obtain ⟨h0, he, vs, h1, h2, h3⟩ := q; exact ⟨(upd_ne (ne h0)).trans h0, he, vs, (upd_ne (ne h0)).trans h1, h2, fun f v e => let ⟨d, e1, e2⟩ := h3 f v e; ⟨d, e1, e2.monoL hs (List.prefix_refl _)⟩⟩
  · show upd n.H a _ b ≠ none
    by_cases hb' : b = a
    · rw [hb', upd_same]; simp
    · rw [upd_ne hb']; exact s.alh b hb
  · obtain ⟨h1, h2, h3⟩ := s.phb b hb
    have ne : b ≠ a := fun y => by rw [y, h] at h1; cases h1
    exact ⟨(upd_ne ne).trans h1, h2, by show upd n.H a _ b ≠ none; rw [upd_ne ne]; exact h3⟩
  · by_cases hb : b = a
    · exact .inl (by rw [hb]; exact nn h)
    · exact .inl (nn (o := u) (by rw [← e]; exact (upd_ne hb).symm))
  · have ne : b ≠ a := fun y => by rw [y, h] at e0; cases e0
    show upd n.H a _ b = _
    rw [upd_ne ne]; exact e
  · by_cases hb : b = a
    · rw [hb] at e
      have e' : upd n.H a (.frz o (.dK us)) a = none := e
      rw [upd_same] at e'; cases e'
    · rw [← e]; exact (upd_ne hb).symm
end
section
variable {X : Cx} {W : WX} {tg e : Expr} {td : TE} {f : DTE} {apos cpos : Pos}
/-- the dict walked is locked, or will be -/
def LkR (x : V) (H : Hp) (R : Addr → Obj → List (Key × V) → Hp → Prop) : Prop := ∃ d kvs, x = .ref d ∧ ((∃ o, H d = some (.frz o (.dK kvs)) ∧ R d o kvs H) ∨ (H d = some (.dK kvs) ∧ ∀ o, R d o kvs (upd H d (.frz o (.dK kvs)))))
theorem lkr_go {pins : List (Addr × Obj)} {σ : L2.St} {H : Hp} {s : Shared} {x : V} {R : Addr → Obj → List (Key × V) → Hp → Prop} (I : Inv X pins σ H s) (h : LkR x H R) : ∃ d o kvs H', x = .ref d ∧ Inv X pins σ H' s ∧ H' d = some (.frz o (.dK kvs)) ∧ R d o kvs H' := by
  obtain ⟨d, kvs, rfl, ⟨o, h1, h2⟩ | ⟨h1, h2⟩⟩ := h
  · exact ⟨d, o, kvs, H, rfl, I, h1, h2⟩
  · obtain ⟨o, I1⟩ := I.lock h1 trivial
    exact ⟨d, o, kvs, _, rfl, I1, upd_same, h2 o⟩
theorem pi_keysL (he : PE X e td) : PI X tg e (fun σ H R => td σ H fun x H1 => LkR x H1 fun d o kvs H2 => R (Itk d o kvs) H2) := by
  refine ⟨fun pins s σ H R I h => ?_⟩
  refine thn (he.run pins s σ H _ I h) fun u s1 ⟨x, H1, I1, rx, q⟩ => ?_
  obtain ⟨d, o, kvs, H2, rfl, I2, hd, q⟩ := lkr_go I1 q
  obtain rfl : u = Value.ref d := rx
  obtain ⟨hs, hgd, hx, es, ep, vs, hdt, hsz, kv, hm⟩ := I2.frzK hd
  refine iter_keys hs hgd hx hdt (pi_one (tk := s1.toks) I2 _ (turn_keys _ hdt) ⟨_, Heap.get?_push_size _ rfl, rfl, ?_⟩ q)
  rw [hsz] <;> rfl
theorem rep_kD {K : PySem.W.Frag} {Hb : Hp} {al : List Addr} : ∀ k : Key, Rep K Hb al (kV k) (kD k)
  | .inl i => .int i
  | .inr x => .str x
/-- the walks -/
theorem dw_keys {K : PySem.W.Frag} {n : Now} {a : Addr} {o : Obj} {us : List (Key × V)} {ks : List Key} (h : n.Hb a = some (.frz o (.dK us))) (hk : ks = us.map (·.1)) : DWalk K n (Itk a o us) none (ks.map kD) := by
  have hl : (ks.map kD).length = us.length := by rw [hk]; simp
  have q : ∀ n2 μ2, SP n n2 → SR0 K n2 μ2 → n2.H a = some (.frz o (.dK us)) := fun n2 μ2 s sr => sr.same _ _ (s.same.ne h (fun _ z => nomatch z))
  refine ⟨fun n2 μ2 i s sr _ hi => ⟨q n2 μ2 s sr, hl ▸ hi⟩, fun n2 μ2 s sr _ => ⟨q n2 μ2 s sr, by rw [hl]; exact Nat.le_refl _⟩, fun n2 μ2 i x H' d s sr _ hd y => ?_⟩
  obtain ⟨rfl, k, v, hkv, rfl⟩ := y
  rw [hk, List.map_map, List.getElem?_map, hkv] at hd
  cases hd
  exact ⟨n2, rfl, Step.refl _, sr, rep_kD k⟩
def dIterK (f : DTE) : DTI := fun Γ μ Q E => f Γ μ (fun d μ1 => match d with
  | .dct kvs => Q none (kvs.map fun kv => kD kv.1) μ1
  | _ => False) E
theorem di_keys (h : DE X W e f) : DI X W tg e (dIterK f) := PI.imp (pi_keysL h) fun σ H R ⟨n, Γ, μ, Qd, Ed, hH, sr, gr, h, hq, hx⟩ => by
  subst hH
  refine lift_go sr gr h (fun n1 x dx μ1 s1 r1 p1 q1 => ?_) hx
  cases p1 with
  | @dct a us ks ds hd hk hr =>
    have hl0 : us.length = ds.length := by have := hr.length; simpa using this
    have ek : (((ks.zip ds).map fun kv => kD kv.1) : List D) = ks.map kD := by
      have : (ks.zip ds).map (fun kv => kv.1) = ks := List.map_fst_zip (by rw [hk]; simp; omega)
      calc (ks.zip ds).map (fun kv => kD kv.1) = ((ks.zip ds).map (fun kv => kv.1)).map kD := by rw [List.map_map]; rfl
        _ = _ := by rw [this]
    dsimp only at q1
    rw [ek] at q1
    rcases hd with hd | ⟨o, hd⟩
    · refine ⟨a, us, rfl, .inr ⟨r1.same _ _ hd, fun o => ?_⟩⟩
      obtain ⟨z1, z2⟩ := r1.lock (o := o) hd
      exact hq (n1.fix a (.frz o (.dK us))) none _ μ1 _ (s1.trans z2) z1 (dw_keys upd_same hk) q1
    · exact ⟨a, us, rfl, .inl ⟨o, r1.same _ _ hd, hq n1 none _ μ1 _ s1 r1 (dw_keys hd hk) q1⟩⟩
  | _ => exact q1.elim
end
end DV
namespace DV
open PySem PySem.Spec PyProof.Rows L2
section
variable {X : Cx} {W : WX} {e : Expr} {es : List Expr} {x : Str} {p pos : Pos} {fr : DTA} {C : Addr} {k : Nat} {ps : List Str} {S : DSp}
theorem de_makeMH (h : HasI X.prog X.w X.K X.mg X.base C x k ps S) (hr : Room (k + 1) X.A) (hg : Gl X x) (tk : Takes X W) (ha : DA X W (e :: es) fr) (hdb : (x == ("__debug__" : Str)) = false := by decide)
    (he : starEach (e :: es) X.env = (false, eval e X.env) :: starEach es X.env := by rfl) (hpl : (backTo pos (starEach es X.env)).any (·.1) = false := by rfl) : DE X W (.Call (.Name x p) (e :: es) [] pos) (dMakeM C S fr) := by
  obtain ⟨f, fd, h1, h2, h3, h4⟩ := h
  exact de_makeM h2 h4 hr hg h1 h3 tk ha hdb he hpl
end
end DV
local macro_rules | `(tactic| walk_at "dv") => `(tactic| try simp only [DV.dSeq, DV.dIf, DV.dOrT, DV.dAndT, DV.dNotT, DV.dTest, DV.dChain, DV.dC, DV.dCall, DV.gLen, DV.dCons, DV.dVar, DV.dNil, DV.dBin, DV.dUn, DV.gNeg, DV.gIn, DV.gIx, DV.dRet, DV.dRetN, DV.dNext, DV.dFor, DV.dIter, DV.dName, DV.lk, DV.dAsg, DV.dDrop, DV.gLst, DV.gTup, DV.gLstM, DV.gAdd, DV.gI, DV.gMod, DV.gMul, DV.gFdiv, DV.gPow, DV.gAbs, DV.gInt, DV.gList, DV.gTuple, DV.dOp, DV.dOpK, DV.dIsi, DV.tyD, DV.gIs, DV.gIsNot, DV.D.isN, DV.dJoin, DV.dCellM, DV.dSetI, DV.dSlice, DV.dPart, DV.dNoPart, DV.dRevA, DV.dFin, DV.dAugI, DV.dComp, DV.wipeG, DV.cName, DV.cPair, DV.dYes, DV.dRange1, DV.dRange2, DV.dAnd, DV.dOr, DV.dNot, DV.dIfE, DV.gEq, DV.gNe, DV.sgn_one, DV.atI_zero, DV.dTruth, DV.truD, DV.dBreak, DV.dCont, DV.gSorted, DV.dSortK, DV.dRevT, DV.gInD, DV.gIsB, DV.gStr, DV.dPop0, DV.dDict, DV.dPairs, DV.keysD, DV.keyOfD, DV.dFinD, DV.dFld, DV.dSetF, DV.dMake, DV.dMethod, DV.dProp, DV.dOwnIx, DV.dNever, DV.gMulM, DV.gAddM, DV.gMax2, DV.dPair, DV.gDGet, DV.dSetD, DV.dDict0, DV.dComp2, DV.dSortSC, DV.isIns, DV.insOf,
  List.getElem?_cons_zero, List.getElem?_cons_succ, List.set_cons_zero, List.set_cons_succ, List.map_cons, List.map_nil, List.length_cons, List.length_nil, List.replicate, Nat.sub_self, List.append_nil, List.cons_append, List.nil_append, DV.start0, if_true, if_false, Bool.not_true, Bool.not_false, Bool.false_eq_true, Bool.true_and, Bool.and_true, Bool.or_true, Bool.true_or, Bool.false_or, Bool.or_false, eq_self_iff_true, not_true_eq_false, not_false_eq_true, ite_true, ite_false, cond_true, cond_false])
namespace DV
open PySem PySem.Spec PyProof.Rows L2
/-! Wishes: an integer for each of some outcomes. -/
def lkL (ks : List Str) (u : Str → Int) : List (Key × D) := ks.map fun x => (.inr x, .int (u x))
theorem lk_val {ks : List Str} {u : Str → Int} {x : Str} (h : x ∈ ks) : valD (lkL ks u) (.inr x) = some (.int (u x)) := by
  induction ks with
  | nil => cases h
  | cons k ks ih =>
    unfold lkL
    rw [List.map_cons]
    by_cases e : k = x
    · subst e; rw [valD_pos rfl]
    · rw [valD_neg (fun z => e (by injection z))]
      exact ih ((List.mem_cons.mp h).resolve_left (fun z => e z.symm))
theorem lk_tupK (ks : List Str) (u : Str → Int) : ((lkL ks u).map fun kv => kD kv.1) = ks.map .str := by
  unfold lkL; rw [List.map_map]; rfl
def wD (C : Cs) (ns : List Str) (u : Str → Int) : D := .ins C.W [("likes", .dct (lkL ns u))]
/-- names of outcomes -/
structure NOk (ns : List Str) : Prop where
  nd : ns.Nodup
  l1 : 1 ≤ ns.length
  l6 : ns.length ≤ 6
  ok : ∀ x ∈ ns, validN x = true
theorem NOk.asc {ns : List Str} (h : NOk ns) {x : Str} (hx : x ∈ ns) : DV.asc x := (valid_asc (h.ok x hx)).1
theorem NOk.sort {ns : List Str} (h : NOk ns) : NOk (sortS ns) := ⟨(sortS_perm ns).nodup_iff.mpr h.nd, by rw [(sortS_perm ns).length_eq]; exact h.l1, by rw [(sortS_perm ns).length_eq]; exact h.l6, fun x hx => h.ok x ((sortS_perm ns).mem_iff.mp hx)⟩
/-! check_different -/
def diffX : List Str → List Str → Option Exn
  | _, [] => none
  | e, w :: ws => cond (validN w) (if w ∈ e then some ⟨.DuplicateName, [("name", .str w)]⟩ else diffX (e ++ [w]) ws) (some ⟨.BadName, [("name", .str w)]⟩)
def S_check_different : DSp := fun ds μ Q E => ∃ ws : List Str, (ds = [.lst (ws.map .str)] ∨ ds = [.tup (ws.map .str)]) ∧ ws.length ≤ 1000 ∧ (∀ x ∈ ws, x.length ≤ sizeLine) ∧ (∀ x, diffX [] ws = some x → E x μ) ∧ (diffX [] ws = none → Q .non μ)
def t_check_different : DTS := dSeq (dAsg (dCall gLstM (dNil)) (dName 1)) (dFor (dIter (dVar 0)) (dName 2) (dSeq (dIf (dNotT (dTest (dOp S_valid_name (dCons (dVar 2) (dNil))))) (dRaise .BadName "name" (dVar 2)) (dNext)) (dSeq (dIf (dTest (dBin (gIn false) (dVar 2) (dVar 1))) (dRaise .DuplicateName "name" (dVar 2)) (dNext)) (dDrop (dCellM cAppend (dVar 1) (dCons (dVar 2) dNil))))))
theorem lk_last {μ : Mu} {xs : List D} : lk (μ ++ [.lst xs]) (.ref μ.length) = .lst xs := by
  unfold lk; simp
theorem lp_different {μ : Mu} {Q : D → Mu → Prop} {E : Exn → Mu → Prop} {d : D} : ∀ (ws e : List Str) (a : Option D), (∀ x ∈ ws, x.length ≤ sizeLine) → e.length + ws.length ≤ 1000 → (∀ x, diffX e ws = some x → E x μ) → (diffX e ws = none → Q .non μ) →
    dLoop none (dName 2) (dSeq (dIf (dNotT (dTest (dOp S_valid_name (dCons (dVar 2) (dNil))))) (dRaise .BadName "name" (dVar 2)) (dNext)) (dSeq (dIf (dTest (dBin (gIn false) (dVar 2) (dVar 1))) (dRaise .DuplicateName "name" (dVar 2)) (dNext)) (dDrop (dCellM cAppend (dVar 1) (dCons (dVar 2) dNil))))) (ws.map .str) (dFn μ Q E) [some d, some (.ref μ.length), a] (μ ++ [.lst (e.map .str)])
  | [], e, a, _, _, _, h2 => ⟨trivial, .inr ⟨μ, [.lst (e.map .str)], rfl, Upd.refl μ, .inl ⟨rfl, h2 rfl⟩⟩⟩
  | w :: ws, e, a, hl, hn, h1, h2 => by
    refine ⟨trivial, ?_⟩
    simp only [dName, List.set_cons_zero, List.set_cons_succ, dSeq, dIf, dNotT, dTest, dOp, dCons, dNil, dVar, List.getElem?_cons_zero, List.getElem?_cons_succ]
    refine ⟨w, rfl, hl w List.mem_cons_self, ?_⟩
    unfold diffX at h1 h2
    cases hv : validN w with
    | false =>
      rw [hv] at h1
      simp only [Bool.not_false, cond_true, dRaise, dVar, List.getElem?_cons_zero, List.getElem?_cons_succ]
      exact ⟨μ, _, rfl, Upd.refl μ, rfl, h1 _ rfl⟩
    | true =>
      rw [hv, cond_true] at h1 h2
      simp only [Bool.not_true, cond_false, dNext]
      rw [dSeq]
      simp only [dIf, dTest, dBin, dVar, List.getElem?_cons_zero, List.getElem?_cons_succ, gIn]
      rw [lk_last]
      dsimp only
      refine ⟨⟨rfl, flat_strs' _⟩, ?_⟩
      rw [inF_strs]
      by_cases hm : w ∈ e
      · rw [if_pos hm] at h1
        rw [decide_eq_true hm]
        simp only [Bool.false_eq_true, if_false, cond_true, dRaise, dVar, List.getElem?_cons_zero, List.getElem?_cons_succ]
        exact ⟨μ, _, rfl, Upd.refl μ, rfl, h1 _ rfl⟩
      · rw [if_neg hm] at h1 h2
        rw [decide_eq_false hm]
        simp only [Bool.false_eq_true, if_false, cond_false, dNext]
        simp only [dDrop, dCellM, dCons, dNil, dVar, List.getElem?_cons_zero, List.getElem?_cons_succ, get_a0]
        rw [append_at (by rw [List.length_map]; simp at hn; omega)]
        dsimp only
        rw [set_a0]
        have z := lp_different (Q := Q) (E := E) (d := d) ws (e ++ [w]) (some (.str w)) (fun x hx => hl x (List.mem_cons_of_mem _ hx)) (by simp at hn ⊢; omega) h1 h2
        rw [List.map_append] at z
        exact z
theorem rd_check_different {n1 n2 n3 : Str} : ∀ ds μ Q E, S_check_different ds μ Q E → t_check_different (dFn μ Q E) (start0 [n1, n2, n3] ds) μ := by
  rintro _ μ Q E ⟨ws, hd, hl, hz, q1, q2⟩
  unfold t_check_different
  rcases hd with rfl | rfl
  all_goals
    rw [dSeq]
    simp only [dAsg, dCall, dNil, gLstM, start0, List.map_cons, List.map_nil, List.length_cons, List.length_nil, List.replicate, List.cons_append, List.nil_append]
    refine ⟨by decide, ?_⟩
    simp only [dName, List.set_cons_zero, List.set_cons_succ, dFor, dIter, dVar, List.getElem?_cons_zero]
    exact lp_different ws [] none hz (by simpa using hl) q1 q2
/-! Wishes.__init__ -/
theorem pu_lk (ks : List Str) (u : Str → Int) : D.puK (lkL ks u) = true := by
  rw [puK_eq, puL_iff]
  intro x hx
  obtain ⟨p, hp, rfl⟩ := List.mem_map.mp hx
  obtain ⟨k, _, rfl⟩ := List.mem_map.mp hp
  rfl
theorem fz_pu {m : Nat} {μ : Mu} : ∀ {ds : List D}, D.puL ds = true → FzL m μ ds ds
  | [], _ => .nil
  | d :: ds, h => by simp only [D.puL, Bool.and_eq_true] at h; exact .cons (.pu h.1) (fz_pu h.2)
/-! outcomes, prefers -/
def S_W_outcomes (C : Cs) : DSp := fun ds μ Q _ => ∃ ns u, ds = [wD C ns u] ∧ Q (tupS ns) μ
def t_W_outcomes (C : Cs) : DTS := dRet (dCall gTupleD (dCons (dFld C.W "likes" (dVar 0)) dNil))
theorem w_look {ns : List Str} {u : Str → Int} : List.lookup (Str.ofString "likes") [((Str.ofString "likes" : Str), D.dct (lkL ns u))] = some (.dct (lkL ns u)) := rfl
theorem rd_W_outcomes {C : Cs} {n1 : Str} : ∀ ds μ Q E, S_W_outcomes C ds μ Q E → t_W_outcomes C (dFn μ Q E) (start0 [n1] ds) μ := by
  rintro _ μ Q E ⟨ns, u, rfl, q⟩
  unfold t_W_outcomes wD
  simp only [dRet, dCall, dCons, dNil, dFld, dVar, start0, List.map_cons, List.map_nil, List.length_cons, List.length_nil, List.replicate, Nat.sub_self, List.append_nil, List.getElem?_cons_zero, lk, w_look, gTupleD, lk_tupK]
  exact ⟨trivial, FnEnd.here q⟩
end DV
namespace DV
open PySem PySem.Spec PyProof.Rows L2
/-! Cells, improvements, stable cells. -/
theorem pu_strs (ws : List Str) : D.puL (ws.map .str) = true := by rw [puL_iff]; intro x hx; obtain ⟨z, _, rfl⟩ := List.mem_map.mp hx; rfl
/-! table[cell], of any value -/
/-! improvements -/
theorem w_own {μ : Mu} {C : Cs} {ns : List Str} {u : Str → Int} {m : Str} (h : m ≠ "likes") : isIns μ C.W m (wD C ns u) := by
  refine ⟨rfl, ?_⟩
  show List.lookup m [((Str.ofString "likes" : Str), _)] = none
  rw [List.lookup_cons]
  have : (m == (Str.ofString "likes" : Str)) = false := by simpa using h
  rw [this]; rfl
end DV
namespace DV
open PySem PySem.Spec PyProof.Rows L2
/-! The laws' own wishes and looks. -/
def SeeS (ρ : Mu) (d : D) (ns : List Str) : Prop := ∀ c loc, seqOf (O c (ρ ++ loc)) d = some (ns.map .str)
theorem SeeS.tup {ρ : Mu} {ns : List Str} : SeeS ρ (tupS ns) ns := fun _ _ => rfl
theorem SeeS.lst {ρ : Mu} {ns : List Str} : SeeS ρ (.lst (ns.map .str)) ns := fun _ _ => rfl
theorem perm_strs {ys : List D} {ns : List Str} (h : ys.Perm (ns.map .str)) : ∃ ks : List Str, ys = ks.map .str ∧ ks.Perm ns := by
  have hs : ∀ y ∈ ys, ∃ x, y = .str x := fun y hy => by
    obtain ⟨x, _, rfl⟩ := List.mem_map.mp (h.mem_iff.mp hy)
    exact ⟨x, rfl⟩
  let f : D → Str := fun d => match d with | .str x => x | _ => Str.empty
  have e : ys = (ys.map f).map .str := by
    rw [List.map_map]
    conv => lhs; rw [← List.map_id ys]
    refine List.map_congr_left fun y hy => ?_
    obtain ⟨x, rfl⟩ := hs y hy
    rfl
  refine ⟨ys.map f, e, ?_⟩
  have := h.map f
  rw [List.map_map] at this
  have e2 : ns.map (f ∘ D.str) = ns := by
    conv => rhs; rw [← List.map_id ns]
    exact List.map_congr_left fun y _ => rfl
  rwa [e2] at this
/-! cells -/
/-! better cells -/
end DV
namespace DV
open PySem PySem.Spec PyProof.Rows L2
/-! words without zz9; the wishes that a law draws; unlike outcomes. -/
abbrev ZZ : Str := Str.ofString "zz9"
theorem nodup_set {ns : List Str} {x : Str} (h : ns.Nodup) (hx : x ∉ ns) : ∀ (i : Nat), (ns.set i x).Nodup := by
  induction ns with
  | nil => intro i; exact h
  | cons a ns ih =>
    rw [List.nodup_cons] at h
    intro i
    cases i with
    | zero => rw [List.set_cons_zero, List.nodup_cons]; exact ⟨fun z => hx (List.mem_cons_of_mem _ z), h.2⟩
    | succ i =>
      rw [List.set_cons_succ, List.nodup_cons]
      refine ⟨fun z => ?_, ih h.2 (fun z => hx (List.mem_cons_of_mem _ z)) i⟩
      rcases List.mem_or_eq_of_mem_set z with z | z
      · exact h.1 z
      · exact hx (z ▸ List.mem_cons_self)
theorem zz_valid : validN ZZ = true := by decide +kernel
theorem lkO {c : Nat} {ρ : Mu} {xs : List D} : lk (O c (ρ ++ [.lst xs])) (.ref (ρ.length + 1)) = .lst xs := by
  unfold lk; simp
theorem getO {c : Nat} {ρ : Mu} {x : Cell} : (O c (ρ ++ [x]))[ρ.length + 1]? = some x := by
  rw [List.getElem?_cons_succ]; exact get_a0
theorem setO {c : Nat} {ρ : Mu} {x y : Cell} : (O c (ρ ++ [x])).set (ρ.length + 1) y = O c (ρ ++ [y]) := by
  rw [List.set_cons_succ, set_a0]
section
variable {De : DEnds} {a0 a1 a3 a4 a7 : Option D} {W ns : List Str} {ρ : Mu} {c : Nat} {pl : Int}
theorem ws4 (hn : NOk ns) (hs : ∀ x ∈ ns, x ∈ W) (hc : 0 < c) (k : ∀ c' ns', c ≤ c' + 1 → NOk ns' → (∀ x ∈ ns', x ∈ W) → De.nx [some (.ref 0), a1, some (.lst (W.map .str)), a3, a4, some (.ref (ρ.length + 1)), some (.int pl), a7] (O c' (ρ ++ [.lst (ns'.map .str)]))) :
    dIf (dAndT (dTest (dBin gEq (dVar 6) (dC (.int 1)))) (dTest (dBin (gI fun i j => .bl (decide (j < i))) (dCall gLen (dCons (dVar 5) dNil)) (dC (.int 1))))) (dDrop (dCellM cPop (dVar 5) (dCons (dOp S_take (dCons (dVar 0) (dCons (dCall gLen (dCons (dVar 5) dNil)) (dNil)))) dNil))) (dNext) De [some (.ref 0), a1, some (.lst (W.map .str)), a3, a4, some (.ref (ρ.length + 1)), some (.int pl), a7] (O c (ρ ++ [.lst (ns.map .str)])) := by
  simp only [dIf, dAndT, dTest, dBin, dC, dVar, List.getElem?_cons_zero, List.getElem?_cons_succ, gEq, deq_int]
  refine ⟨deqOk_int _ _ _, ?_⟩
  have n6 := hn.l6
  by_cases h0 : pl = 1
  · rw [decide_eq_true h0]
    simp only [cond_true, dCall, dCons, dNil, dVar, List.getElem?_cons_zero, List.getElem?_cons_succ, gLen, lkO, gI, List.length_map]
    by_cases h6 : (1 : Int) < ns.length
    · rw [decide_eq_true h6]
      simp only [cond_true, dDrop, dCellM, dVar, List.getElem?_cons_zero, List.getElem?_cons_succ, get_a0, dCons, dNil, dOp, dCall, gLen, lkO, List.length_map]
      refine take_O hc (by omega) (by omega) fun c' t h1 t0 t1 => ?_
      rw [getO]
      dsimp only
      obtain ⟨y, e1, e2⟩ := pop_at (xs := ns.map D.str) t0 (by rw [List.length_map]; omega) (by rw [List.length_map]; omega)
      rw [e2]
      dsimp only
      rw [setO]
      have e3 : (ns.map D.str).eraseIdx t.toNat = (ns.eraseIdx t.toNat).map .str := by
        have hl : ∀ (l : List Str) (i : Nat), (l.map D.str).eraseIdx i = (l.eraseIdx i).map .str := by
          intro l
          induction l with
          | nil => intro i; rfl
          | cons x l ih => intro i; cases i with
            | zero => rfl
            | succ i => simp [ih]
        exact hl _ _
      rw [e3]
      have sub := List.eraseIdx_sublist ns t.toNat
      refine k c' _ h1 ⟨sub.nodup hn.nd, ?_, Nat.le_trans sub.length_le n6, fun x hx => hn.ok x (sub.subset hx)⟩ fun x hx => hs x (sub.subset hx)
      rw [List.length_eraseIdx]
      split <;> omega
    · rw [decide_eq_false h6]
      exact k c ns (by omega) hn hs
  · rw [decide_eq_false h0]
    exact k c ns (by omega) hn hs
theorem ws5 (hn : NOk ns) (hz : ZZ ∉ ns) (hc : 0 < c) (k : ∀ c' ns', c ≤ c' + 1 → NOk ns' → De.nx [some (.ref 0), a1, some (.lst (W.map .str)), a3, a4, some (.ref (ρ.length + 1)), some (.int pl), a7] (O c' (ρ ++ [.lst (ns'.map .str)]))) :
    dIf (dTest (dBin gEq (dVar 6) (dC (.int 2)))) (dAsg (dC (.str "zz9")) (dSetI (dVar 5) (dOp S_take (dCons (dVar 0) (dCons (dCall gLen (dCons (dVar 5) dNil)) (dNil)))))) (dNext) De [some (.ref 0), a1, some (.lst (W.map .str)), a3, a4, some (.ref (ρ.length + 1)), some (.int pl), a7] (O c (ρ ++ [.lst (ns.map .str)])) := by
  simp only [dIf, dTest, dBin, dC, dVar, List.getElem?_cons_zero, List.getElem?_cons_succ, gEq, deq_int]
  refine ⟨deqOk_int _ _ _, ?_⟩
  have n6 := hn.l6
  have n1 := hn.l1
  by_cases h0 : pl = 2
  · rw [decide_eq_true h0]
    simp only [cond_true, dAsg, dC, dSetI, dVar, List.getElem?_cons_zero, List.getElem?_cons_succ, dOp, dCons, dNil, dCall, gLen, lkO, List.length_map]
    refine take_O hc (by omega) (by omega) fun c' t h1 t0 t1 => ?_
    dsimp only
    rw [getO]
    dsimp only
    rw [List.length_map, ixN_nat t0 t1]
    dsimp only
    rw [setO, show (ns.map D.str).set t.toNat (D.str ZZ) = (ns.set t.toNat ZZ).map .str from by rw [List.map_set]]
    refine k c' _ h1 ⟨?_, by rw [List.length_set]; exact n1, by rw [List.length_set]; exact n6, fun x hx => ?_⟩
    · exact nodup_set hn.nd hz _
    · rcases List.mem_or_eq_of_mem_set hx with h | h
      · exact hn.ok x h
      · rw [h]; exact zz_valid
  · rw [decide_eq_false h0]
    exact k c ns (by omega) hn
end
end DV
/-! min and max of ints, list.index, d.get(k, x), dict comprehensions, global tuples of texts. -/
namespace DV
open PySem PySem.Spec PyProof.Rows L2
def maxI : List Int → Int
  | [] => 0
  | [x] => x
  | x :: y :: r => if maxI (y :: r) ≤ x then x else maxI (y :: r)
theorem maxI_spec : ∀ {ns : List Int}, ns ≠ [] → maxI ns ∈ ns ∧ ∀ a ∈ ns, a ≤ maxI ns
  | [], h => absurd rfl h
  | [x], _ => ⟨by simp [maxI], fun a ha => by simp at ha; subst ha; simp [maxI]⟩
  | x :: y :: r, _ => by
    obtain ⟨h1, h2⟩ := maxI_spec (ns := y :: r) (by simp)
    rw [maxI]
    split
    · rename_i h
      refine ⟨by simp, fun a ha => ?_⟩
      rcases List.mem_cons.mp ha with rfl | ha
      · exact Int.le_refl _
      · exact Int.le_trans (h2 a ha) h
    · rename_i h
      refine ⟨List.mem_cons_of_mem _ h1, fun a ha => ?_⟩
      rcases List.mem_cons.mp ha with rfl | ha
      · omega
      · exact h2 a ha
theorem maxI_eq {ns : List Int} {m : Int} (h1 : m ∈ ns) (h2 : ∀ a ∈ ns, a ≤ m) : maxI ns = m := by
  obtain ⟨a, b⟩ := maxI_spec (ns := ns) (fun z => by rw [z] at h1; cases h1)
  have := b m h1
  have := h2 _ a
  omega
section
variable {X : Cx} {W : WX} {a b c : Expr} {p pos apos : Pos} {fa fb fc : DTE}
theorem cr_max (hc : X.calm = true) : CallR X (.builtin "max") (fun xs H Q => ∃ (a : Addr) (ns : List Int), xs = [.ref a] ∧ SqL X.K H a (ns.map V.int) ∧ ns ≠ [] ∧ Q (.int (maxI ns)) H) := by
  intro pins s σ H xs us Q I r h
  obtain ⟨p, ns, rfl, hs, hne, q⟩ := h
  obtain ⟨its, rv, hl, _⟩ := I.list hs
  rw [Vals.ref1 r]
  have hi := Vals.ints rv
  obtain ⟨xs, e⟩ := hi.allInts.items
  have hns : ns = xs.toList.map (·.1) := by rw [← hi.numsOf, ← nums_intItems, ← e]
  have hsz : 0 < xs.size := by
    have h3 := List.length_pos_iff.mpr hne
    rw [hns, List.length_map, Array.length_toList] at h3; exact h3
  have hl' := hl.isList
  rw [e] at hl'
  refine max_intList (I.ok.hd hc) hl' hsz fun v h' tk hv hk => ?_
  obtain ⟨t, rfl⟩ := intItems_at hv
  obtain ⟨h1, h2⟩ := argBest_gt (numAt xs) (xs.size - 1)
  refine ⟨.int _, H, I.kept hk, ⟨t, rfl⟩, ?_⟩
  have em : maxI ns = numAt xs (argBest (fun i j => decide (numAt xs i > numAt xs j)) (xs.size - 1)) := by
    refine maxI_eq ?_ fun a ha => ?_
    · rw [hns, numAt_eq]; exact getD_mem (by rw [List.length_map, Array.length_toList]; omega)
    · rw [hns] at ha
      obtain ⟨j, hj, rfl⟩ := List.getElem_of_mem ha
      have hj' : j < xs.size := by simpa using hj
      have := h2 j (by omega)
      rw [numAt_eq, numAt_eq] at this
      rw [numAt_eq]
      refine Int.le_trans (Int.le_of_eq ?_) this
      rw [List.getD_eq_getElem?_getD, List.getElem?_eq_getElem hj]; rfl
  rw [← em]; exact q
def gMaxL : GN := fun ds μ Q => match ds with
  | [d] => (match lk μ d with
    | .lst xs => ∃ ns : List Int, xs = ns.map .int ∧ ns ≠ [] ∧ Q (.int (maxI ns)) μ
    | _ => False)
  | _ => False
theorem de_maxL (hc : X.calm = true) (hg : Gl X "max") (hm : X.mg "max" = none) (ha : DE X W a fa) (hs : starEach [a] X.env = (false, eval a X.env) :: starEach [] X.env := by rfl) : DE X W (.Call (.Name "max" p) [a] [] pos) (dCall gMaxL (dCons fa dNil)) :=
  de_callB (cr_max hc) (fun n μ xs ds Qd Q s r q l => by
    unfold gMaxL at q
    split at q
    · cases r with
      | cons r1 r2 =>
        cases r2
        split at q
        · rename_i ys e
          obtain ⟨ns, rfl, hne, q⟩ := q
          obtain ⟨a, vs, rfl, h1, h2⟩ := see_lst s r1 e
          rw [Reps.ints ns h2] at h1
          exact ⟨a, ns, rfl, SqL.of h1, hne, l.now s (.int _) q⟩
        · exact q.elim
    · exact q.elim) hg hm (by decide +kernel) (da_cons ha da_nil hs) (he := hs)
end
/-! {k: v for x in xs} -/
end DV
local macro_rules | `(tactic| walk_at "dv") => `(tactic| try simp only [DV.dSeq, DV.dIf, DV.dOrT, DV.dAndT, DV.dNotT, DV.dTest, DV.dChain, DV.dC, DV.dCall, DV.gLen, DV.dCons, DV.dVar, DV.dNil, DV.dBin, DV.dUn, DV.gNeg, DV.gIn, DV.gIx, DV.dRet, DV.dRetN, DV.dNext, DV.dFor, DV.dIter, DV.dName, DV.lk, DV.dAsg, DV.dDrop, DV.gLst, DV.gTup, DV.gLstM, DV.gAdd, DV.gI, DV.gMod, DV.gMul, DV.gFdiv, DV.gPow, DV.gAbs, DV.gInt, DV.gList, DV.gTuple, DV.dOp, DV.dOpK, DV.dIsi, DV.tyD, DV.gIs, DV.gIsNot, DV.D.isN, DV.dJoin, DV.dCellM, DV.dSetI, DV.dSlice, DV.dPart, DV.dNoPart, DV.dRevA, DV.dFin, DV.dAugI, DV.dComp, DV.wipeG, DV.cName, DV.cPair, DV.dYes, DV.dRange1, DV.dRange2, DV.dAnd, DV.dOr, DV.dNot, DV.dIfE, DV.gEq, DV.gNe, DV.sgn_one, DV.atI_zero, DV.dTruth, DV.truD, DV.dBreak, DV.dCont, DV.gSorted, DV.dSortK, DV.dRevT, DV.gInD, DV.gIsB, DV.gStr, DV.dPop0, DV.dDict, DV.dPairs, DV.keysD, DV.keyOfD, DV.dFinD, DV.dFld, DV.dSetF, DV.dMake, DV.dMethod, DV.dProp, DV.dOwnIx, DV.dNever, DV.dRaise, DV.dRaise0, DV.gMulM, DV.gAddM, DV.gMax2, DV.dPair, DV.gDGet, DV.dSetD, DV.dDict0, DV.dComp2, DV.dSortSC, DV.isIns, DV.insOf,
  List.getElem?_cons_zero, List.getElem?_cons_succ, List.set_cons_zero, List.set_cons_succ, List.map_cons, List.map_nil, List.length_cons, List.length_nil, List.replicate, Nat.sub_self, List.append_nil, List.cons_append, List.nil_append, DV.start0, if_true, if_false, Bool.not_true, Bool.not_false, Bool.false_eq_true, Bool.true_and, Bool.and_true, Bool.or_true, Bool.true_or, Bool.false_or, Bool.or_false, eq_self_iff_true, not_true_eq_false, not_false_eq_true, ite_true, ite_false, cond_true, cond_false])
namespace DV
open PySem PySem.Spec PyProof.Rows L2
/-! Plain facts: smooth and firm by rows; what keeps a table's kind. -/
/-- firm, by rows -/
def Fm (g : List (List Str)) : Prop := ∀ S : Str → Prop, (∃ r ∈ g, ∀ x ∈ r, S x) ∨ ∃ j, j < wid g ∧ ∀ r ∈ g, ¬ S (r.getD j Str.empty)
theorem getD_mem {g : List (List Str)} (h : TOk g) {r : List Str} (hr : r ∈ g) {j : Nat} (hj : j < wid g) : r.getD j Str.empty ∈ r := by
  have : j < r.length := by rw [h.eq r hr]; exact hj
  rw [List.getD_eq_getElem?_getD, List.getElem?_eq_getElem this]
  exact List.getElem_mem _
end DV
local macro_rules | `(tactic| walk_at "dv") => `(tactic| try simp only [DV.dSeq, DV.dIf, DV.dOrT, DV.dAndT, DV.dNotT, DV.dTest, DV.dChain, DV.dC, DV.dCall, DV.gLen, DV.dCons, DV.dVar, DV.dNil, DV.dBin, DV.dUn, DV.gNeg, DV.gIn, DV.gIx, DV.dRet, DV.dRetN, DV.dNext, DV.dFor, DV.dIter, DV.dName, DV.lk, DV.dAsg, DV.dDrop, DV.gLst, DV.gTup, DV.gLstM, DV.gAdd, DV.gI, DV.gMod, DV.gMul, DV.gFdiv, DV.gPow, DV.gAbs, DV.gInt, DV.gList, DV.gTuple, DV.dOp, DV.dOpK, DV.dIsi, DV.tyD, DV.gIs, DV.gIsNot, DV.D.isN, DV.dJoin, DV.dCellM, DV.dSetI, DV.dSlice, DV.dPart, DV.dNoPart, DV.dRevA, DV.dFin, DV.dAugI, DV.dComp, DV.wipeG, DV.cName, DV.cPair, DV.dYes, DV.dRange1, DV.dRange2, DV.dAnd, DV.dOr, DV.dNot, DV.dIfE, DV.gEq, DV.gNe, DV.sgn_one, DV.atI_zero, DV.dTruth, DV.truD, DV.dBreak, DV.dCont, DV.gSorted, DV.dSortK, DV.dRevT, DV.gInD, DV.gIsB, DV.gStr, DV.dPop0, DV.dDict, DV.dPairs, DV.keysD, DV.keyOfD, DV.dFinD, DV.dFld, DV.dSetF, DV.dMake, DV.dMethod, DV.dProp, DV.dOwnIx, DV.dNever, DV.gMulM, DV.gAddM, DV.gMax2, DV.dPair, DV.gDGet, DV.dSetD, DV.dDict0, DV.dComp2, DV.dSortSC, DV.isIns, DV.insOf,
  List.getElem?_cons_zero, List.getElem?_cons_succ, List.set_cons_zero, List.set_cons_succ, List.map_cons, List.map_nil, List.length_cons, List.length_nil, List.replicate, Nat.sub_self, List.append_nil, List.cons_append, List.nil_append, DV.start0, if_true, if_false, Bool.not_true, Bool.not_false, Bool.false_eq_true, Bool.true_and, Bool.and_true, Bool.or_true, Bool.true_or, Bool.false_or, Bool.or_false, eq_self_iff_true, not_true_eq_false, not_false_eq_true, ite_true, ite_false, cond_true, cond_false])
namespace DV
open PySem PySem.Spec PyProof.Rows L2
/-! What a table is worth. -/
/-! opposite -/
/-! lines -/
/-! worth -/
/-! the first line -/
end DV
namespace DV
open PySem PySem.Spec PyProof.Rows L2
/-! Plain facts of worth. -/
end DV
/-! Class methods, and a class called through a variable. -/
namespace DV
open PySem PySem.Spec PyProof.Rows L2 ClX
end DV
/-! Class methods and global tuples of texts: the head's facts, the rules. -/
namespace DV
open PySem PySem.Spec PyProof.Rows L2 ClX
/-! global tuples of texts -/
end DV
/-! == and != of data with dicts in it. -/
namespace DV
open PySem PySem.Spec PyProof.Rows L2
def allT (f : D → D → Option Bool) : List D → List D → Option Bool
  | [], [] => some true
  | x :: xs, y :: ys => (match f x y, allT f xs ys with | some b, some c => some (b && c) | _, _ => none)
  | _, _ => none
def lookD (kvs : List (Key × D)) (k : Key) : Option D := (kvs.find? fun p => decide (p.1 = k)).map (·.2)
def dctT (f : D → D → Option Bool) (b : List (Key × D)) : List (Key × D) → Option Bool
  | [] => some true
  | (k, v) :: r => (match lookD b k with
    | none => (dctT f b r).map fun _ => false
    | some w => (match f v w, dctT f b r with | some x, some y => some (x && y) | _, _ => none))
def deqT : Nat → D → D → Option Bool
  | 0, x, y => bif D.okn 0 x && D.okn 0 y then some (PyData.eqv (D.py 0 x) (D.py 0 y)) else none
  | k + 1, x, y => bif D.okn (k + 1) x && D.okn (k + 1) y then some (PyData.eqv (D.py (k + 1) x) (D.py (k + 1) y)) else (match x, y with
    | .lst xs, .lst ys => if xs.length = ys.length then allT (deqT k) xs ys else none
    | .tup xs, .tup ys => if xs.length = ys.length then allT (deqT k) xs ys else none
    | .dct a, .dct b => if (a.map (·.1)).Nodup ∧ (b.map (·.1)).Nodup then (dctT (deqT k) b a).map fun r => decide (a.length = b.length) && r else none
    | _, _ => none)
theorem allT_get {f : D → D → Option Bool} : ∀ {xs ys : List D} {b : Bool}, allT f xs ys = some b → xs.length = ys.length ∧ (∀ (j : Nat) x y, xs[j]? = some x → ys[j]? = some y → ∃ c, f x y = some c) ∧ b = (List.range xs.length).all fun j => (f (xs.getD j .non) (ys.getD j .non)).getD false
  | [], [], b, h => by cases h; exact ⟨rfl, fun j x y e => by simp at e, rfl⟩
  | x :: xs, y :: ys, b, h => by
    unfold allT at h
    split at h
    · rename_i c d e1 e2
      cases h
      obtain ⟨h1, h2, h3⟩ := allT_get e2
      refine ⟨by simp [h1], fun j a b ha hb => ?_, ?_⟩
      · cases j with
        | zero => simp at ha hb; subst ha hb; exact ⟨c, e1⟩
        | succ j => exact h2 j a b (by simpa using ha) (by simpa using hb)
      · rw [h3, List.length_cons, List.range_succ_eq_map, List.all_cons, List.all_map]
        simp only [List.getD_cons_zero, e1, Option.getD_some]
        congr 1
    · cases h
  | [], _ :: _, b, h => by cases h
  | _ :: _, [], b, h => by cases h
theorem dctT_get {f : D → D → Option Bool} {b : List (Key × D)} : ∀ {a : List (Key × D)} {r : Bool}, dctT f b a = some r → (∀ k v w, (k, v) ∈ a → lookD b k = some w → ∃ c, f v w = some c) ∧ r = a.all fun p => (lookD b p.1).isSome && (((lookD b p.1).bind fun w => f p.2 w).getD false)
  | [], r, h => by cases h; exact ⟨(fun k v w e => by cases e), rfl⟩
  | (k, v) :: a, r, h => by
    unfold dctT at h
    split at h
    · rename_i e
      obtain ⟨c, hc, rfl⟩ := Option.map_eq_some_iff.mp h
      obtain ⟨h1, h2⟩ := dctT_get hc
      refine ⟨fun k' v' w hm hw => ?_, ?_⟩
      · rcases List.mem_cons.mp hm with e2 | hm
        · cases e2; rw [e] at hw; cases hw
        · exact h1 k' v' w hm hw
      · simp [e]
    · rename_i w e
      split at h
      · rename_i x y e1 e2
        cases h
        obtain ⟨h1, h2⟩ := dctT_get e2
        refine ⟨fun k' v' w' hm hw => ?_, ?_⟩
        · rcases List.mem_cons.mp hm with e3 | hm
          · cases e3; rw [e] at hw; cases hw; exact ⟨x, e1⟩
          · exact h1 k' v' w' hm hw
        · rw [List.all_cons, ← h2]
          simp [e, e1]
      · cases h
section
variable {K : PySem.W.Frag} {Hb : Hp} {al : List Addr}
theorem rep_fun : ∀ (k : Nat) {v : V} {d e : D}, Rep K Hb al v d → Rep K Hb al v e → D.okn k d = true → D.okn k e = true → d = e := by
  intro k
  induction k with
  | zero =>
    intro v d e r1 r2 h1 h2
    cases r1 <;> first | (simp [D.okn] at h1; done) | (cases r2 <;> first | rfl | (simp [D.okn] at h2; done))
  | succ k ih =>
    have all : ∀ {vs : List V} {ds es : List D}, Reps K Hb al vs ds → Reps K Hb al vs es → ds.all (D.okn k) = true → es.all (D.okn k) = true → ds = es := by
      intro vs
      induction vs with
      | nil => intro ds es r1 r2 _ _; cases r1; cases r2; rfl
      | cons v vs ihv =>
        intro ds es r1 r2 h1 h2
        cases r1 with
        | cons a1 b1 =>
          cases r2 with
          | cons a2 b2 =>
            simp only [List.all_cons, Bool.and_eq_true] at h1 h2
            rw [ih a1 a2 h1.1 h2.1, ihv b1 b2 h1.2 h2.2]
    intro v d e r1 r2 h1 h2
    cases r1 with
    | lst e1 t1 =>
      cases r2 with
      | lst e2 t2 =>
        rw [e1] at e2; cases e2
        simp only [D.okn] at h1 h2
        rw [all t1 t2 h1 h2]
      | tup e2 t2 => rw [e1] at e2; cases e2
      | _ => simp [D.okn] at h2
    | tup e1 t1 =>
      cases r2 with
      | tup e2 t2 =>
        rw [e1] at e2; cases e2
        simp only [D.okn] at h1 h2
        rw [all t1 t2 h1 h2]
      | lst e2 t2 => rw [e1] at e2; cases e2
      | _ => simp [D.okn] at h2
    | _ => first | (simp [D.okn] at h1; done) | (cases r2 <;> first | rfl | (simp [D.okn] at h2; done))
theorem lookD_get {us : List (Key × V)} {ds : List D} (nd : (us.map (·.1)).Nodup) (hl : us.length = ds.length) {j : Nat} {p : Key × V} {d : D} (hj : us[j]? = some p) (hd : ds[j]? = some d) : lookD ((us.map (·.1)).zip ds) p.1 = some d := by
  induction us generalizing ds j with
  | nil => simp at hj
  | cons q us ih =>
    cases ds with
    | nil => simp at hl
    | cons e ds =>
      rw [List.map_cons, List.nodup_cons] at nd
      cases j with
      | zero => simp at hj hd; subst hj hd; simp [lookD]
      | succ j =>
        have hj' : us[j]? = some p := by simpa using hj
        have := ih nd.2 (by simpa using hl) hj' (by simpa using hd)
        have hne : ¬ q.1 = p.1 := fun z => nd.1 (z ▸ List.mem_map.mpr ⟨p, List.mem_of_getElem? hj', rfl⟩)
        unfold lookD at this ⊢
        rw [List.map_cons, List.zip_cons_cons, List.find?_cons]
        simp only [hne, decide_false]
        exact this
theorem deqT_same : ∀ (k : Nat) {v : V} {d e : D} {b : Bool}, Rep K Hb al v d → Rep K Hb al v e → deqT k d e = some b → b = true := by
  have okc : ∀ k {v : V} {d e : D} {b : Bool}, Rep K Hb al v d → Rep K Hb al v e → D.okn k d = true → D.okn k e = true → some (PyData.eqv (D.py k d) (D.py k e)) = some b → b = true := by
    intro k v d e b r1 r2 h1 h2 h
    cases h
    rw [rep_fun k r1 r2 h1 h2]
    exact SeqAt.eqv_refl _ (okn_lay k e h2).1
  intro k
  induction k with
  | zero =>
    intro v d e b r1 r2 h
    unfold deqT at h
    cases h1 : D.okn 0 d with
    | false => rw [h1] at h; cases h
    | true =>
      cases h2 : D.okn 0 e with
      | false => rw [h1, h2] at h; cases h
      | true => rw [h1, h2] at h; exact okc 0 r1 r2 h1 h2 h
  | succ k ih =>
    have all : ∀ {vs : List V} {ds es : List D} {b : Bool}, Reps K Hb al vs ds → Reps K Hb al vs es → allT (deqT k) ds es = some b → b = true := by
      intro vs
      induction vs with
      | nil => intro ds es b r1 r2 h; cases r1; cases r2; cases h; rfl
      | cons v vs ihv =>
        intro ds es b r1 r2 h
        cases r1 with
        | cons a1 b1 =>
          cases r2 with
          | cons a2 b2 =>
            unfold allT at h
            split at h
            · rename_i c d e1 e2
              cases h
              rw [ih a1 a2 e1, ihv b1 b2 e2]; rfl
            · cases h
    intro v d e b r1 r2 h
    unfold deqT at h
    cases ho : (D.okn (k + 1) d && D.okn (k + 1) e) with
    | true =>
      rw [ho] at h
      rw [Bool.and_eq_true] at ho
      exact okc (k + 1) r1 r2 ho.1 ho.2 h
    | false =>
      rw [ho] at h
      simp only [cond_false] at h
      split at h
      · split at h
        · cases r1 with
          | lst e1 t1 => cases r2 with
            | lst e2 t2 => rw [e1] at e2; cases e2; exact all t1 t2 h
        · cases h
      · split at h
        · cases r1 with
          | tup e1 t1 => cases r2 with
            | tup e2 t2 => rw [e1] at e2; cases e2; exact all t1 t2 h
        · cases h
      · rename_i a0 b0
        split at h
        · rename_i nd
          obtain ⟨r, hr, hb⟩ := Option.map_eq_some_iff.mp h
          generalize ea : a0 = a at *
          generalize eb : b0 = bb at *
          have r1' : Rep K Hb al v (.dct a) := r1
          have r2' : Rep K Hb al v (.dct bb) := r2
          cases r1' with
          | @dct ad us ks ds e1 k1 t1 =>
            cases r2' with
            | @dct ad' us' ks' ds' e2 k2 t2 =>
              have e3 := rd_inj e1 e2
              cases e3
              subst k1 k2
              have l1 : us.length = ds.length := by have := t1.length; simpa using this
              have l2 : us.length = ds'.length := by have := t2.length; simpa using this
              have nd2 : (us.map (·.1)).Nodup := by
                have := nd.2
                rwa [List.map_fst_zip (by simp [l2])] at this
              obtain ⟨g1, g2⟩ := dctT_get hr
              rw [← hb, g2]
              simp only [List.length_zip, List.length_map, ← l1, ← l2, decide_true, Bool.true_and]
              rw [List.all_eq_true]
              intro p hp
              obtain ⟨j, hj⟩ := List.getElem?_of_mem hp
              have hjz : ((us.map (·.1)).zip ds)[j]? = some p := hj
              rw [List.getElem?_zip_eq_some] at hjz
              obtain ⟨z1, z2⟩ := hjz
              rw [List.getElem?_map] at z1
              obtain ⟨q, hq, q1⟩ := Option.map_eq_some_iff.mp z1
              have hj2 : j < ds'.length := by rw [← l2]; exact (List.getElem?_eq_some_iff.mp hq).1
              have lk' : lookD ((us.map (·.1)).zip ds') p.1 = some ds'[j] := by rw [← q1]; exact lookD_get nd2 l2 hq (List.getElem?_eq_getElem hj2)
              rw [lk']
              obtain ⟨c, hc⟩ := g1 p.1 p.2 ds'[j] hp lk'
              obtain ⟨v1, hv1, rv1⟩ := t1.get z2
              obtain ⟨v2, hv2, rv2⟩ := t2.get (List.getElem?_eq_getElem hj2)
              rw [hv1] at hv2; cases hv2
              have := ih rv1 rv2 hc
              subst this
              simp [hc]
        · cases h
      · cases h
end
end DV
namespace PySem.SeqAt
open AutoSeq1 (wpAny_loadPart')
open MeetsSeq MeetsSeq2 MeetsSeq3 SeqRoads2
section
variable {prog : Program} {w : World}
theorem dv_ne_loopIn (l b : Addr) (items items2 : Array Value) (n n2 : Nat) (dd dd2 : Option Addr) (sl sl2 : Array (Option Value)) (hsz : items.size = items2.size) (e : Nat → Bool) (k : Nat) :
    ∀ i : Nat, items.size - i = k → MeetsIn prog w (Builtin.«list.__eq__.loop» ⟨[.ref l, .ref b, rawInt i, rawInt 3], []⟩)
      (fun A R s => s.heap.get? l = some { cls := .type "list", dict := dd, data := .seq items n, slots := sl } ∧ s.heap.get? b = some { cls := .type "list", dict := dd2, data := .seq items2 n2, slots := sl2 } ∧
        (∀ j (h1 : j < items.size) (h2 : j < items2.size), EqIn prog w A.in1 s items[j] items2[j] (e j)) ∧
        R (.ok (.ret (.bool (!((List.range items.size).drop i).all e)))) s) := by
  induction k with
  | zero =>
    intro i hk A R s h
    obtain ⟨hp, g, d, tk, os⟩ := s; obtain ⟨hl, hb, he, h⟩ := h
    wp_walk using wpAny_loadPart' hl, wpAny_loadPart' hb
    have hi1 : items[((i : Nat) : Int).toNat]? = none := by simp; omega
    have hi2 : items2[((i : Nat) : Int).toNat]? = none := by simp; omega
    have hd : (List.range items.size).drop i = [] := by simp; omega
    rw [hd] at h
    rw [hi1, hi2]
    wp_walk using wpAny_loadPart' hl, wpAny_loadPart' hb
    show R (.ok (.ret (.bool (items.size != items2.size)))) _
    rw [hsz]
    simpa using h
  | succ k ih =>
    intro i hk A R s h
    obtain ⟨hp, g, d, tk, os⟩ := s; obtain ⟨hl, hb, he, h⟩ := h
    wp_walk using wpAny_loadPart' hl, wpAny_loadPart' hb
    have hlt : i < items.size := by omega
    have hlt2 : i < items2.size := by omega
    have hi1 : items[((i : Nat) : Int).toNat]? = some items[i] := by simp [hlt]
    have hi2 : items2[((i : Nat) : Int).toNat]? = some items2[i] := by simp [hlt2]
    have hd : (List.range items.size).drop i = i :: (List.range items.size).drop (i + 1) := by simp [List.drop_eq_getElem_cons, hlt]
    have hc : ((i : Int) + 1) = ((i + 1 : Nat) : Int) := by push_cast; rfl
    rw [hd, List.all_cons] at h
    rw [hi1, hi2]
    refine wpAny_bind (he i hlt hlt2 _ _ ?_)
    cases hb' : e i with
    | true =>
      rw [hb'] at h
      wp_walk
      rw [hc]
      exact ⟨plainId_quiet plain_eq_loop _, codeAny_builtin entry_eq_loop (by
        rw [Around.under_plainId plain_eq_loop _]
        exact ih (i + 1) (by omega) A R _ ⟨hl, hb, he, by simpa using h⟩)⟩
    | false =>
      rw [hb'] at h
      wp_walk using wpAny_loadPart' hl, wpAny_loadPart' hb
      rw [hi1, hi2]
      wp_walk
      simpa using h
theorem dv_list_neIn (l b : Addr) (items items2 : Array Value) (n n2 : Nat) (dd dd2 : Option Addr) (sl sl2 : Array (Option Value)) (hsz : items.size = items2.size) (e : Nat → Bool) :
    MeetsIn prog w (Builtin.«list.__ne__» ⟨[.ref l, .ref b], []⟩)
      (fun A R s => s.heap.get? l = some { cls := .type "list", dict := dd, data := .seq items n, slots := sl } ∧ s.heap.get? b = some { cls := .type "list", dict := dd2, data := .seq items2 n2, slots := sl2 } ∧
        (∀ j (h1 : j < items.size) (h2 : j < items2.size), EqIn prog w A.in1 s items[j] items2[j] (e j)) ∧
        R (.ok (.ret (.bool (!(List.range items.size).all e)))) s) := by
  intro A R s h
  obtain ⟨hp, g, d, tk, os⟩ := s; obtain ⟨hl, hb, he, h⟩ := h
  have f3 := AutoSeq1.sub_list_list
  have hne : ¬ (items.size != items2.size) = true := by simp [hsz]
  wp_walk using wpAny_loadPart' hl, wpAny_loadPart' hb
  exact ⟨plainId_quiet plain_eq_loop _, codeAny_builtin entry_eq_loop (by
    rw [Around.under_plainId plain_eq_loop _]
    exact dv_ne_loopIn l b items items2 n n2 dd dd2 sl sl2 hsz e _ 0 rfl A R _ ⟨hl, hb, he, by simpa using h⟩)⟩
end
section
variable {prog : Program} {w : World} {A : Around} {s : Shared}
theorem dv_rcNe_lists {E : Value → Shared → Prop} {l b : Addr} {items items2 : Array Value} {e : Nat → Bool} {Q : Value → Shared → Prop} (hl : s.heap.IsList l items) (hb : s.heap.IsList b items2) (hsz : items.size = items2.size) (hu : A.units < cLine)
    (he : ∀ j (h1 : j < items.size) (h2 : j < items2.size), EqIn prog w A.in1 s items[j] items2[j] (e j)) (h : Q (.bool (!(List.range items.size).all e)) s) : wpAny (model prog w) A (richCompare .NotEq (.ref l) (.ref b)) Q E s := by
  obtain ⟨⟨cls, dd, data, sl⟩, ho, hc, n, hd⟩ := id hl
  obtain ⟨⟨cls2, dd2, data2, sl2⟩, ho2, hc2, n2, hd2⟩ := id hb
  simp only at hc hd hc2 hd2
  subst hc hd hc2 hd2
  exact wpAny_richCompare_same_room (T := "list") (op := .NotEq) ⟨_, ho, rfl⟩ ⟨_, ho2, rfl⟩ F.slot_list_ne (call_meetsIn F.slot_list_ne ⟨_, ho, rfl⟩ F.entry_list_ne (F.args_list_ne_2 _ _) (dv_list_neIn l b items items2 n n2 dd dd2 sl sl2 hsz e)
    ⟨ho, ho2, he, show Value.bool (!(List.range items.size).all e) ≠ Value.notImplemented ∧ Q (.bool (!(List.range items.size).all e)) s from ⟨(fun x => nomatch x), h⟩⟩) hu
end
end PySem.SeqAt
namespace DV
open PySem PySem.Spec PyProof.Rows L2
open PySem.W (EqTree)
section
variable {X : Cx} {pins : List (Addr × Obj)} {σ : L2.St} {H Hb : Hp} {s : Shared} {al : List Addr}
theorem tree_data {k : Nat} {x y : V} {u v : Value} {d e : PyData} (I : Inv X pins σ H s) (h1 : Dp X.K H x d) (h2 : Dp X.K H y e) (c1 : d.canLay0 = true) (c2 : e.canLay0 = true) (hd : d.depth ≤ k) (ru : RelV x u) (rv : RelV y v) : EqTree X.prog X.w s k u v (PyData.eqv d e) := by
  obtain ⟨as, r1⟩ := Dp.reads I d x u h1 ru
  obtain ⟨bs, r2⟩ := Dp.reads I e y v h2 rv
  exact .leaf fun A hA => SeqAt.eqAt_reads d e A s u v _ _ r1 r2 c1 c2 (by omega)
/-- the items of a list or tuple -/
theorem tree_items {k : Nat} {vs vs' : List V} {us us' : List Value} {ds es : List D} {b : Bool} (t1 : Reps X.K Hb al vs ds) (t2 : Reps X.K Hb al vs' es) (w1 : Vals vs us) (w2 : Vals vs' us') (h : allT (deqT k) ds es = some b)
    (ih : ∀ {x y : V} {dx dy : D} {b : Bool} {u v : Value}, Rep X.K Hb al x dx → Rep X.K Hb al y dy → deqT k dx dy = some b → RelV x u → RelV y v → EqTree X.prog X.w s k u v b) :
    us.toArray.size = us'.toArray.size ∧ (∀ j (h1 : j < us.toArray.size) (h2 : j < us'.toArray.size), EqTree X.prog X.w s k us.toArray[j] us'.toArray[j] ((deqT k (ds.getD j .non) (es.getD j .non)).getD false)) ∧ b = (List.range us.toArray.size).all fun j => (deqT k (ds.getD j .non) (es.getD j .non)).getD false := by
  obtain ⟨g1, g2, g3⟩ := allT_get h
  have l1 : us.length = ds.length := w1.length.symm.trans t1.length
  have l2 : us'.length = es.length := w2.length.symm.trans t2.length
  refine ⟨by simp [l1, l2, g1], fun j h1 h2 => ?_, by rw [g3]; simp [l1]⟩
  have h1 : j < us.length := by simpa using h1
  have h2 : j < us'.length := by simpa using h2
  have j1 : j < ds.length := by omega
  have j2 : j < es.length := by omega
  obtain ⟨x, hx, rx⟩ := t1.get (List.getElem?_eq_getElem j1)
  obtain ⟨y, hy, ry⟩ := t2.get (List.getElem?_eq_getElem j2)
  obtain ⟨u, hu, ru⟩ := w1.get hx
  obtain ⟨v, hv, rv⟩ := w2.get hy
  obtain ⟨c, hc⟩ := g2 j _ _ (List.getElem?_eq_getElem j1) (List.getElem?_eq_getElem j2)
  have e1 : us.toArray[j] = u := by
    rw [List.getElem?_eq_getElem h1] at hu; cases hu; simp
  have e2 : us'.toArray[j] = v := by
    rw [List.getElem?_eq_getElem h2] at hv; cases hv; simp
  rw [e1, e2, List.getD_eq_getElem?_getD, List.getD_eq_getElem?_getD, List.getElem?_eq_getElem j1, List.getElem?_eq_getElem j2]
  simp only [Option.getD_some, hc]
  exact ih rx ry hc ru rv
theorem kv_get {us : List (Key × V)} {ds : List D} {vs : List (Key × Value)} {k : Key} (t : Reps X.K Hb al (us.map (·.2)) ds) (r : KV us vs) : (∀ v, PySem.valueAt vs k = some v → ∃ x d, RelV x v ∧ Rep X.K Hb al x d ∧ lookD ((us.map (·.1)).zip ds) k = some d) ∧ (PySem.valueAt vs k).isSome = (lookD ((us.map (·.1)).zip ds) k).isSome := by
  induction us generalizing ds vs with
  | nil =>
    cases r
    exact ⟨fun v h => by simp [PySem.valueAt] at h, by simp [PySem.valueAt, lookD]⟩
  | cons p us ih =>
    cases r with
    | cons h r =>
      rename_i q vs
      rw [List.map_cons] at t
      cases t with
      | cons t0 t1 =>
        rename_i d ds
        obtain ⟨i1, i2⟩ := ih t1 r
        by_cases e : p.1 = k
        · have e' : q.1 = k := h.1 ▸ e
          refine ⟨fun v hv => ?_, ?_⟩
          · simp [PySem.valueAt, List.find?_cons, e'] at hv
            subst hv
            exact ⟨p.2, d, h.2, t0, by simp [lookD, List.find?_cons, e]⟩
          · simp [PySem.valueAt, lookD, List.find?_cons, e, e']
        · have e' : ¬ q.1 = k := fun z => e (h.1.trans z)
          refine ⟨fun v hv => ?_, ?_⟩
          · have hv' : PySem.valueAt vs k = some v := by simpa [PySem.valueAt, List.find?_cons, e'] using hv
            obtain ⟨x, d', a1, a2, a3⟩ := i1 v hv'
            exact ⟨x, d', a1, a2, by simpa [lookD, List.find?_cons, e] using a3⟩
          · simpa [PySem.valueAt, lookD, List.find?_cons, e, e'] using i2
theorem kv_mem {us : List (Key × V)} {ds : List D} {vs : List (Key × Value)} (t : Reps X.K Hb al (us.map (·.2)) ds) (r : KV us vs) : vs.length = ds.length ∧ ∀ (j : Nat) q, vs[j]? = some q → ∃ x d, RelV x q.2 ∧ Rep X.K Hb al x d ∧ ((us.map (·.1)).zip ds)[j]? = some (q.1, d) := by
  induction us generalizing ds vs with
  | nil => cases r; cases t; exact ⟨rfl, fun j q h => by simp at h⟩
  | cons p us ih =>
    cases r with
    | cons h r =>
      rename_i q vs
      rw [List.map_cons] at t
      cases t with
      | cons t0 t1 =>
        obtain ⟨i1, i2⟩ := ih t1 r
        refine ⟨by simp [i1], fun j q' hq => ?_⟩
        cases j with
        | zero => simp at hq; subst hq; exact ⟨_, _, h.2, t0, by simp [h.1]⟩
        | succ j =>
          obtain ⟨x, d, a1, a2, a3⟩ := i2 j q' (by simpa using hq)
          exact ⟨x, d, a1, a2, by simpa using a3⟩
/-- dicts -/
theorem tree_dicts {k : Nat} {us us' : List (Key × V)} {ds es : List D} {vs vs' : List (Key × Value)} {r : Bool} (t1 : Reps X.K Hb al (us.map (·.2)) ds) (t2 : Reps X.K Hb al (us'.map (·.2)) es) (w1 : KV us vs) (w2 : KV us' vs')
    (nd : ((((us.map (·.1)).zip ds)).map (·.1)).Nodup) (h : dctT (deqT k) ((us'.map (·.1)).zip es) ((us.map (·.1)).zip ds) = some r)
    (ih : ∀ {x y : V} {dx dy : D} {b : Bool} {u v : Value}, Rep X.K Hb al x dx → Rep X.K Hb al y dy → deqT k dx dy = some b → RelV x u → RelV y v → EqTree X.prog X.w s k u v b) :
    ∃ e : Key → Bool, (∀ q v y, (q, v) ∈ vs → PySem.valueAt vs' q = some y → EqTree X.prog X.w s k v y (e q)) ∧ (decide (((us.map (·.1)).zip ds).length = ((us'.map (·.1)).zip es).length) && r) = (vs.length == vs'.length && vs.all fun p => (PySem.valueAt vs' p.1).isSome && e p.1) := by
  obtain ⟨g1, g2⟩ := dctT_get h
  obtain ⟨m1, m2⟩ := kv_mem t1 w1
  obtain ⟨m3, _⟩ := kv_mem t2 w2
  have lu : us.length = ds.length := by have := t1.length; simpa using this
  have lu' : us'.length = es.length := by have := t2.length; simpa using this
  let L := (us.map (·.1)).zip ds
  have look : ∀ q d, (q, d) ∈ L → lookD L q = some d := by
    intro q d hm
    have : ∀ (l : List (Key × D)), (l.map (·.1)).Nodup → (q, d) ∈ l → lookD l q = some d := by
      intro l
      induction l with
      | nil => intro _ h; cases h
      | cons p l ihl =>
        intro nd hm
        rw [List.map_cons, List.nodup_cons] at nd
        rcases List.mem_cons.mp hm with e | hm
        · subst e; simp [lookD]
        · have hne : ¬ p.1 = q := fun z => nd.1 (z ▸ List.mem_map.mpr ⟨_, hm, rfl⟩)
          have := ihl nd.2 hm
          unfold lookD at this ⊢
          rw [List.find?_cons]
          simp only [hne, decide_false]
          exact this
    exact this L nd hm
  refine ⟨fun q => ((lookD L q).bind fun d => (lookD ((us'.map (·.1)).zip es) q).bind fun w => deqT k d w).getD false, fun q v y hm hy => ?_, ?_⟩
  · obtain ⟨j, hj⟩ := List.getElem?_of_mem hm
    obtain ⟨x, d, rx, rd, hz⟩ := m2 j _ hj
    have hmem : (q, d) ∈ L := List.mem_of_getElem? hz
    obtain ⟨y', d', ry, rd', hl⟩ := (kv_get (k := q) t2 w2).1 y hy
    obtain ⟨c, hc⟩ := g1 q d d' hmem hl
    simp only [look q d hmem, hl, Option.bind_some, hc, Option.getD_some]
    exact ih rd rd' hc rx ry
  · rw [g2]
    have e1 : decide (((us.map (·.1)).zip ds).length = ((us'.map (·.1)).zip es).length) = (vs.length == vs'.length) := by
      simp only [List.length_zip, List.length_map, lu, lu', Nat.min_self, m1, m3]
      by_cases z : ds.length = es.length <;> simp [z]
    rw [e1]
    congr 1
    have e2 : ∀ (j : Nat) q, vs[j]? = some q → ∃ p, L[j]? = some p ∧ p.1 = q.1 := fun j q hq => by
      obtain ⟨x, d, _, _, hz⟩ := m2 j q hq
      exact ⟨_, hz, rfl⟩
    have lL : L.length = vs.length := by simp [L, lu, m1]
    rw [Bool.eq_iff_iff, List.all_eq_true, List.all_eq_true]
    have one : ∀ p ∈ L, ((lookD ((us'.map (·.1)).zip es) p.1).isSome && (((lookD ((us'.map (·.1)).zip es) p.1).bind fun w => deqT k p.2 w).getD false)) = ((PySem.valueAt vs' p.1).isSome && (((lookD L p.1).bind fun d => (lookD ((us'.map (·.1)).zip es) p.1).bind fun w => deqT k d w).getD false)) := fun p hp => by
      rw [(kv_get (k := p.1) t2 w2).2, look p.1 p.2 hp]; rfl
    constructor
    · intro a q hq
      obtain ⟨j, hj⟩ := List.getElem?_of_mem hq
      obtain ⟨p, hp, ep⟩ := e2 j q hj
      have hp' := List.mem_of_getElem? hp
      rw [← ep, ← one p hp']
      exact a p hp'
    · intro a p hp
      obtain ⟨j, hj⟩ := List.getElem?_of_mem hp
      have hjl : j < vs.length := by rw [← lL]; exact (List.getElem?_eq_some_iff.mp hj).1
      obtain ⟨p', hp2, ep⟩ := e2 j _ (List.getElem?_eq_getElem hjl)
      rw [hj] at hp2; cases hp2
      rw [one p hp, ep]
      exact a _ (List.getElem_mem hjl)
theorem deqT_tree (sm : Same Hb H) (I : Inv X pins σ H s) : ∀ (k : Nat) {x y : V} {dx dy : D} {b : Bool} {u v : Value}, Rep X.K Hb al x dx → Rep X.K Hb al y dy → deqT k dx dy = some b → RelV x u → RelV y v → EqTree X.prog X.w s k u v b := by
  have okc : ∀ k {x y : V} {dx dy : D} {b : Bool} {u v : Value}, Rep X.K Hb al x dx → Rep X.K Hb al y dy → D.okn k dx = true → D.okn k dy = true → some (PyData.eqv (D.py k dx) (D.py k dy)) = some b → RelV x u → RelV y v → EqTree X.prog X.w s k u v b := by
    intro k x y dx dy b u v r1 r2 h1 h2 h ru rv
    cases h
    exact tree_data I (dp_of sm k r1 h1) (dp_of sm k r2 h2) (okn_lay k dx h1).1 (okn_lay k dy h2).1 (okn_lay k dx h1).2 ru rv
  intro k
  induction k with
  | zero =>
    intro x y dx dy b u v r1 r2 h ru rv
    unfold deqT at h
    cases ho : (D.okn 0 dx && D.okn 0 dy) with
    | false => rw [ho] at h; cases h
    | true =>
      rw [ho] at h
      rw [Bool.and_eq_true] at ho
      exact okc 0 r1 r2 ho.1 ho.2 h ru rv
  | succ k ih =>
    intro x y dx dy b u v r1 r2 h ru rv
    have h0 := h
    unfold deqT at h
    cases ho : (D.okn (k + 1) dx && D.okn (k + 1) dy) with
    | true =>
      rw [ho] at h
      rw [Bool.and_eq_true] at ho
      exact okc (k + 1) r1 r2 ho.1 ho.2 h ru rv
    | false =>
      rw [ho] at h
      simp only [cond_false] at h
      split at h
      · split at h
        · cases r1 with
          | @lst a vs ds e1 t1 => cases r2 with
            | @lst a' vs' ds' e2 t2 =>
              cases ru; cases rv
              by_cases hne : a = a'
              · subst hne
                rw [deqT_same (k + 1) (.lst e1 t1) (.lst e2 t2) h0]
                exact .same
              · obtain ⟨its, w1, p1, _⟩ := I.list (.inl (.inl (sm _ _ e1)))
                obtain ⟨its', w2, p2, _⟩ := I.list (.inl (.inl (sm _ _ e2)))
                obtain ⟨z1, z2, z3⟩ := tree_items t1 t2 w1 w2 h ih
                rw [z3]
                exact .lists hne p1.isList p2.isList z1 z2
        · cases h
      · split at h
        · cases r1 with
          | @tup a vs ds e1 t1 => cases r2 with
            | @tup a' vs' ds' e2 t2 =>
              cases ru; cases rv
              by_cases hne : a = a'
              · subst hne
                rw [deqT_same (k + 1) (.tup e1 t1) (.tup e2 t2) h0]
                exact .same
              · obtain ⟨its, w1, p1, _⟩ := I.tuple (.inl (.inl (sm _ _ e1)))
                obtain ⟨its', w2, p2, _⟩ := I.tuple (.inl (.inl (sm _ _ e2)))
                obtain ⟨z1, z2, z3⟩ := tree_items t1 t2 w1 w2 h ih
                have q := EqTree.tuples (prog := X.prog) (w := X.w) (s := s) hne p1 p2 z2
                rw [z1, Nat.min_self, beq_self_eq_true, Bool.and_true] at q
                rw [z3, z1]
                exact q
        · cases h
      · rename_i a0 b0
        split at h
        · rename_i nd
          obtain ⟨r, hr, hb⟩ := Option.map_eq_some_iff.mp h
          generalize ea : a0 = aa at *
          generalize eb : b0 = bb at *
          have r1' : Rep X.K Hb al x (.dct aa) := r1
          have r2' : Rep X.K Hb al y (.dct bb) := r2
          have same := deqT_same (k + 1) (K := X.K) (Hb := Hb) (al := al) (v := x) (d := .dct aa) (e := .dct bb) (b := b) r1'
          cases r1' with
          | @dct ad us ks ds e1 k1 t1 =>
            cases r2' with
            | @dct ad' us' ks' ds' e2 k2 t2 =>
              cases ru; cases rv
              by_cases hne : ad = ad'
              · subst hne
                rw [same r2 h0]
                exact .same
              · subst k1 k2
                obtain ⟨_, y1, vs, kv1, d1⟩ := dk_rd I.hok (same_rd sm e1)
                obtain ⟨_, y2, vs', kv2, d2⟩ := dk_rd I.hok (same_rd sm e2)
                obtain ⟨e, f1, f2⟩ := tree_dicts (s := s) t1 t2 kv1 kv2 nd.1 hr ih
                rw [← hb, f2]
                exact .dicts (knd := mixKind X.prog X.w) hne y1 y2 d1 d2 f1
        · cases h
      · cases h
end
section
variable {X : Cx}
theorem zip_back {kvs : List (Key × D)} {us : List (Key × V)} (h : kvs.map (·.1) = us.map (·.1)) : kvs = (us.map (·.1)).zip (kvs.map (·.2)) := by
  rw [← h]
  clear h
  induction kvs with
  | nil => rfl
  | cons p r ih => rw [List.map_cons, List.map_cons, List.zip_cons_cons, ← ih]
variable {W : WX} {a b : Expr} {pos : Pos} {fa fb : DTE}
end
end DV
/-! == by an own __eq__ of a class. -/
namespace DV
open PySem PySem.Spec PyProof.Rows L2
end DV
local macro_rules | `(tactic| walk_at "dv") => `(tactic| try simp only [DV.dSeq, DV.dIf, DV.dOrT, DV.dAndT, DV.dNotT, DV.dTest, DV.dChain, DV.dC, DV.dCall, DV.gLen, DV.dCons, DV.dVar, DV.dNil, DV.dBin, DV.dUn, DV.gNeg, DV.gIn, DV.gIx, DV.dRet, DV.dRetN, DV.dNext, DV.dFor, DV.dIter, DV.dName, DV.lk, DV.dAsg, DV.dDrop, DV.gLst, DV.gTup, DV.gLstM, DV.gAdd, DV.gI, DV.gMod, DV.gMul, DV.gFdiv, DV.gPow, DV.gAbs, DV.gInt, DV.gList, DV.gTuple, DV.dOp, DV.dOpK, DV.dIsi, DV.tyD, DV.gIs, DV.gIsNot, DV.D.isN, DV.dJoin, DV.dCellM, DV.dSetI, DV.dSlice, DV.dPart, DV.dNoPart, DV.dRevA, DV.dFin, DV.dAugI, DV.dComp, DV.wipeG, DV.cName, DV.cPair, DV.dYes, DV.dRange1, DV.dRange2, DV.dAnd, DV.dOr, DV.dNot, DV.dIfE, DV.gEq, DV.gNe, DV.sgn_one, DV.atI_zero, DV.dTruth, DV.truD, DV.dBreak, DV.dCont, DV.gSorted, DV.dSortK, DV.dRevT, DV.gInD, DV.gIsB, DV.gStr, DV.dPop0, DV.dDict, DV.dPairs, DV.keysD, DV.keyOfD, DV.dFinD, DV.dFld, DV.dSetF, DV.dMake, DV.dMethod, DV.dProp, DV.dOwnIx, DV.dNever, DV.dRaise, DV.dRaise0, DV.gMulM, DV.gAddM, DV.gMax2, DV.dPair, DV.gDGet, DV.dSetD, DV.dDict0, DV.dComp2, DV.dSortSC, DV.isIns, DV.insOf,
  List.getElem?_cons_zero, List.getElem?_cons_succ, List.set_cons_zero, List.set_cons_succ, List.map_cons, List.map_nil, List.length_cons, List.length_nil, List.replicate, Nat.sub_self, List.append_nil, List.cons_append, List.nil_append, DV.start0, if_true, if_false, Bool.not_true, Bool.not_false, Bool.false_eq_true, Bool.true_and, Bool.and_true, Bool.or_true, Bool.true_or, Bool.false_or, Bool.or_false, eq_self_iff_true, not_true_eq_false, not_false_eq_true, ite_true, ite_false, cond_true, cond_false])
namespace DV
open PySem PySem.Spec PyProof.Rows L2
theorem sz2 {a b : D} : [a, b].length ≤ sizeLine := by rw [sizeLine_eq]; simp
end DV
namespace DV
open PySem PySem.Spec PyProof.Rows L2
theorem hnd_hit {ks : List EK} {k : EK} {fs : List (Str × D)} {o : Option Nat} {su : Addr → Addr → Nat → DTS} {r : List DCl} {Dd : DEnds} {Γ : Gam} {μ : Mu} (h1 : k ∈ ks) (h : dIn ⟨k, o, su⟩ Dd ⟨k, fs⟩ Γ μ) : dHandle ks (⟨k, o, su⟩ :: r) Dd ⟨k, fs⟩ Γ μ := ⟨h1, h1, by rw [if_pos rfl]; exact h⟩
theorem hnd_miss {ks : List EK} {k k' : EK} {fs : List (Str × D)} {o : Option Nat} {su : Addr → Addr → Nat → DTS} {r : List DCl} {Dd : DEnds} {Γ : Gam} {μ : Mu} (h1 : k ∈ ks) (h2 : k' ∈ ks) (ne : k ≠ k') (h : dHandle ks r Dd ⟨k, fs⟩ Γ μ) : dHandle ks (⟨k', o, su⟩ :: r) Dd ⟨k, fs⟩ Γ μ := ⟨h1, h2, by rw [if_neg ne]; exact h⟩
end DV
local macro_rules | `(tactic| walk_at "dv") => `(tactic| try simp only [DV.dSeq, DV.dIf, DV.dOrT, DV.dAndT, DV.dNotT, DV.dTest, DV.dChain, DV.dC, DV.dCall, DV.gLen, DV.dCons, DV.dVar, DV.dNil, DV.dBin, DV.dUn, DV.gNeg, DV.gIn, DV.gIx, DV.dRet, DV.dRetN, DV.dNext, DV.dFor, DV.dIter, DV.dName, DV.lk, DV.dAsg, DV.dDrop, DV.gLst, DV.gTup, DV.gLstM, DV.gAdd, DV.gI, DV.gMod, DV.gMul, DV.gFdiv, DV.gPow, DV.gAbs, DV.gInt, DV.gList, DV.gTuple, DV.dOp, DV.dOpK, DV.dIsi, DV.tyD, DV.gIs, DV.gIsNot, DV.D.isN, DV.dJoin, DV.dCellM, DV.dSetI, DV.dSlice, DV.dPart, DV.dNoPart, DV.dRevA, DV.dFin, DV.dAugI, DV.dComp, DV.wipeG, DV.cName, DV.cPair, DV.dYes, DV.dRange1, DV.dRange2, DV.dAnd, DV.dOr, DV.dNot, DV.dIfE, DV.gEq, DV.gNe, DV.sgn_one, DV.atI_zero, DV.dTruth, DV.truD, DV.dBreak, DV.dCont, DV.gSorted, DV.dSortK, DV.dRevT, DV.gInD, DV.gIsB, DV.gStr, DV.dPop0, DV.dDict, DV.dPairs, DV.keysD, DV.keyOfD, DV.dFinD, DV.dFld, DV.dSetF, DV.dMake, DV.dMethod, DV.dProp, DV.dOwnIx, DV.dNever, DV.gMulM, DV.gAddM, DV.gMax2, DV.dPair, DV.gDGet, DV.dSetD, DV.dDict0, DV.dComp2, DV.dSortSC, DV.isIns, DV.insOf,
  List.getElem?_cons_zero, List.getElem?_cons_succ, List.set_cons_zero, List.set_cons_succ, List.map_cons, List.map_nil, List.length_cons, List.length_nil, List.replicate, Nat.sub_self, List.append_nil, List.cons_append, List.nil_append, DV.start0, if_true, if_false, Bool.not_true, Bool.not_false, Bool.false_eq_true, Bool.true_and, Bool.and_true, Bool.or_true, Bool.true_or, Bool.false_or, Bool.or_false, eq_self_iff_true, not_true_eq_false, not_false_eq_true, ite_true, ite_false, cond_true, cond_false])
namespace DV
open PySem PySem.Spec PyProof.Rows L2
/-! Wishes.ranked, only, amounts, ==. -/
def dseq (d : D) (ns : List Str) : Prop := d = tupS ns ∨ d = .lst (ns.map .str)
theorem dseq.at {d : D} {ns : List Str} (h : dseq d ns) (μ : Mu) : seqOf μ d = some (ns.map .str) := by rcases h with rfl | rfl <;> rfl
/-! ranked, of one rank -/
/-! amounts -/
/-! only -/
/-! == -/
/-! gap_wishes -/
end DV
/-! != of two dicts. -/
namespace PySem.W
open PySem PySem.Spec PyProof.Rows PySem.SeqAt
section
variable {prog : Program} {w : World} {A : Around} {E : Value → Shared → Prop} {s : Shared} {K : Type} [DecidableEq K] {knd : KeyKind prog w K}
theorem keq_neIn {a b : Addr} {ka kb : List (K × Value)} {r : Bool} {Q : Value → Shared → Prop} (ha : (a == sysModules) = false) (hb : (b == sysModules) = false)
    (da : s.heap.DictOf knd a ka) (db : s.heap.DictOf knd b kb) (hu : A.units < cLine) (hits : ka.length = kb.length → KeqHitsIn prog w A.in1 s kb ka r) (h : Q (.bool (!(ka.length == kb.length && r))) s) :
    wpAny (model prog w) A (compareOp .NotEq (.ref a) (.ref b)) Q E s := by
  refine wpAny_richCompare_same_room (op := .NotEq) da.typeIs db.typeIs PySem.F.slot_dict_ne (wpAny_call_entry PySem.F.slot_dict_ne da.typeIs PySem.F.entry_dict_ne ?_ (PySem.F.args_dict_ne_2 _ _)) hu
  show wpAny _ _ (Builtin.Dict.dictSlotArgs "__ne__" ⟨[.ref a, .ref b], []⟩ >>= _) _ _ s
  refine wpAny_bind ?_
  unfold Builtin.Dict.dictSlotArgs
  refine wpAny_bind (wpAny_notOrdered_dict da.typeIs ?_)
  show wpAny _ _ (pure (Value.ref a, Value.ref b)) _ _ s
  refine wpAny_pure ?_
  refine wpAny_bind (wpAny_isInstance (T := "dict") db.typeIs PySem.F.sub_dict_dict ?_)
  simp only [Bool.not_true, Bool.false_eq_true, if_false]
  refine wpAny_bind (wpAny_pure (wpAny_bind (wpAny_pure ?_)))
  refine wpAny_bind (keq_samePairsIn ha hb da db hits ?_)
  refine wpAny_pure ⟨_, rfl, ?_, ?_⟩
  · exact fun x => nomatch x
  · simpa using h
theorem ne_dictsT {n : Nat} {a b : Addr} {ka kb : List (K × Value)} {e : K → Bool} {Q : Value → Shared → Prop} (ha : (a == sysModules) = false) (hb : (b == sysModules) = false)
    (da : s.heap.DictOf knd a ka) (db : s.heap.DictOf knd b kb) (t : ∀ k v y, (k, v) ∈ ka → valueAt kb k = some y → EqTree prog w s n v y (e k)) (hu : A.units + (n + 1) < cLine)
    (h : Q (.bool (!(ka.length == kb.length && ka.all fun p => (valueAt kb p.1).isSome && e p.1))) s) : wpAny (model prog w) A (compareOp .NotEq (.ref a) (.ref b)) Q E s :=
  keq_neIn ha hb da db (by omega) (fun _ => KeqHitsIn.of _ fun k v y hm hv => (t k v y hm hv).at A.in1 (by show A.units + 1 + _ < cLine; omega)) h
end
end PySem.W
namespace DV
open PySem PySem.Spec PyProof.Rows L2
open PySem.W (EqTree)
section
variable {X : Cx} {W : WX} {a b : Expr} {pos : Pos} {fa fb : DTE}
def rNeDc (K : PySem.W.Frag) : R2 := fun x y H Q => ∃ (Hb : Hp) (al : List Addr) (a a' : Addr) (us us' : List (Key × V)) (ds es : List D) (r : Bool), x = .ref a ∧ y = .ref a' ∧ Same Hb H ∧ Rd H a (.dK us) ∧ Rd H a' (.dK us') ∧ Reps K Hb al (us.map (·.2)) ds ∧ Reps K Hb al (us'.map (·.2)) es ∧
  (((us.map (·.1)).zip ds).map (·.1)).Nodup ∧ dctT (deqT 11) ((us'.map (·.1)).zip es) ((us.map (·.1)).zip ds) = some r ∧ Q (.bl (!(decide (((us.map (·.1)).zip ds).length = ((us'.map (·.1)).zip es).length) && r))) H
theorem op_neDc (hu : X.A.units + 64 < cLine) : OpR X (compareOp .NotEq) (rNeDc X.K) := by
  intro pins s σ H x y v u Q I rx ry h
  obtain ⟨Hb, al, a, a', us, us', ds, es, r, rfl, rfl, sm, h1, h2, t1, t2, nd, hr, q⟩ := h
  cases rx; cases ry
  obtain ⟨_, y1, vs, kv1, d1⟩ := dk_rd I.hok h1
  obtain ⟨_, y2, vs', kv2, d2⟩ := dk_rd I.hok h2
  obtain ⟨e, f1, f2⟩ := tree_dicts (s := s) t1 t2 kv1 kv2 nd hr (deqT_tree sm I 11)
  refine PySem.W.ne_dictsT (knd := mixKind X.prog X.w) y1 y2 d1 d2 f1 (by omega) ?_
  rw [← f2]
  exact ⟨.bl _, H, I, rfl, q⟩
/-- != of two dicts -/
def gNeD : G2 := fun x y μ Q => ∃ k1 k2, lk μ x = .dct k1 ∧ lk μ y = .dct k2 ∧ (k1.map (·.1)).Nodup ∧ (k2.map (·.1)).Nodup ∧ ∃ r, dctT (deqT 11) k2 k1 = some r ∧ Q (.bl (!(decide (k1.length = k2.length) && r))) μ
theorem op_gNeD {K : PySem.W.Frag} : Op2 K (rNeDc K) gNeD := fun n μ x y dx dy Qd Q s rx ry hq l => by
  obtain ⟨xs, ys, e1, e2, n1, n2, r, hr, q⟩ := hq
  obtain ⟨a, us, rfl, h1, h2, h3⟩ := see_dct s rx e1
  obtain ⟨a', us', rfl, h4, h5, h6⟩ := see_dct s ry e2
  refine ⟨n.Hb, n.al, a, a', us, us', xs.map (·.2), ys.map (·.2), r, rfl, rfl, s.same, h1, h4, h3, h6, ?_, ?_, ?_⟩
  · rw [← zip_back h2]; exact n1
  · rw [← zip_back h2, ← zip_back h5]; exact hr
  · rw [← zip_back h2, ← zip_back h5]; exact l.now s (.bl _) q
theorem dt_neD (hu : X.A.units + 64 < cLine) (ha : DE X W a fa) (hb : DE X W b fb) : DT X W (.Compare a [.NotEq] [b] pos) (dTest (dBin gNeD fa fb)) := dt_cmp (op_neDc hu) op_gNeD ha hb (nomark _)
end
end DV
/-! dict(list of pairs), d.pop(k), (x[i], y[j]) = a pair. -/
namespace DV
open PySem PySem.Spec PyProof.Rows L2
section
variable {X : Cx} {W : WX} {a o e tg : Expr} {p pos apos : Pos} {fa fb : DTE}
def pairsD : List D → Option (List (Key × D))
  | [] => some []
  | .tup [k, v] :: r => (match keyOfD k, pairsD r with
    | some kk, some t => some ((kk, v) :: t)
    | _, _ => none)
  | _ => none
theorem reps_pairs {K : PySem.W.Frag} {n : Now} {μ : Mu} (s : SR0 K n μ) : ∀ {xs : List D} {vs : List V} {kvs : List (Key × D)}, Reps K n.Hb n.al vs xs → pairsD xs = some kvs →
    ∃ (ps : List Addr) (us : List (Key × V)), vs = ps.map V.ref ∧ Paired (fun p kv => SqT K n.H p [kV kv.1, kv.2]) ps us ∧ RepK K n.Hb n.al us kvs
  | [], vs, kvs, r, h => by
    cases h; cases r
    exact ⟨[], [], rfl, .nil, rfl, .nil⟩
  | x :: xs, vs, kvs, r, h => by
    unfold pairsD at h
    cases r with
    | cons r1 r2 =>
      split at h
      · rename_i e; cases e
      · rename_i k v r' e
        cases e
        split at h
        · rename_i kk t hk ht
          cases h
          obtain ⟨ps, us, rfl, e2, e3, e4⟩ := reps_pairs s r2 ht
          cases r1 with
          | tup hq hr =>
            cases hr with
            | cons p1 q1 =>
              cases q1 with
              | cons p2 q2 =>
                cases q2
                have := key_rep p1 hk
                subst this
                exact ⟨_ :: ps, (kk, _) :: us, rfl, .cons (SqT.of (s.same _ _ hq)) e2, by simp [e3], .cons p2 e4⟩
        · cases h
      · cases h
def gDictP (fz : Bool) : GN := fun ds μ Q => match ds with
  | [d] => (match lk μ d with
    | .lst xs => (match pairsD xs with
      | some kvs => dFinD fz (mergeKD [] kvs) μ Q
      | none => False)
    | _ => False)
  | _ => False
theorem de_dictP (fz : Bool) (hc : X.calm = true) (hg : Gl X "dict") (hm : X.mg "dict" = none) (ha : DE X W a fa) (hs : starEach [a] X.env = (false, eval a X.env) :: starEach [] X.env := by rfl) : DE X W (.Call (.Name "dict" p) [a] [] pos) (dCall (gDictP fz) (dCons fa dNil)) :=
  de_callTy (call_dictP hc) (fun n μ xs ds Qd Q s r q l => by
    unfold gDictP at q
    split at q
    · cases r with
      | cons r1 r2 =>
        cases r2
        split at q
        · rename_i xs e
          split at q
          · rename_i kvs hk
            obtain ⟨a, vs, rfl, h1, h2⟩ := see_lst s r1 e
            obtain ⟨ps, us, rfl, e2, e3⟩ := reps_pairs s h2 hk
            obtain ⟨z1, z2⟩ := RepK.merge e3 (RepK.nil (K := X.K) (Hb := n.Hb) (al := n.al))
            exact ⟨a, ps, us, rfl, SqL.of h1, e2, fun p hp => fin_dct l s hp z1 z2 q⟩
          · exact q.elim
        · exact q.elim
    · exact q.elim) hg hm (by decide +kernel) (da_cons ha da_nil hs) (he := hs)
/-! d.pop(k) -/
def dropKD (kvs : List (Key × D)) (k : Key) : List (Key × D) := kvs.filter fun kv => decide (kv.1 ≠ k)
theorem RepK.drop {K : PySem.W.Frag} {Hb : Hp} {al : List Addr} (k : Key) : ∀ {us : List (Key × V)} {kvs : List (Key × D)}, RepK K Hb al us kvs → RepK K Hb al (dropK us k) (dropKD kvs k)
  | [], [], _ => ⟨rfl, .nil⟩
  | [], _ :: _, h => by have := h.1; simp at this
  | _ :: _, [], h => by have := h.1; simp at this
  | (k1, v) :: us, (k2, d) :: kvs, h => by
    obtain ⟨h1, h2⟩ := h
    simp only [List.map_cons, List.cons.injEq] at h1
    obtain ⟨e, h1⟩ := h1
    subst e
    rw [List.map_cons, List.map_cons] at h2
    cases h2 with
    | cons r1 r2 =>
      have ih := RepK.drop k (us := us) (kvs := kvs) ⟨h1, r2⟩
      unfold dropK dropKD at ih ⊢
      rw [List.filter_cons, List.filter_cons]
      by_cases hk : k2 = k
      · rw [if_neg (by simp [hk]), if_neg (by simp [hk])]
        exact ih
      · rw [if_pos (by simp [hk]), if_pos (by simp [hk])]
        exact ⟨by rw [List.map_cons, List.map_cons, ih.1], .cons r1 ih.2⟩
/-! (x[i], y[j]) = a pair -/
/-! a dict in a cell that is a plain dict from here on -/
theorem thaw {K : PySem.W.Frag} {n : Now} {μ : Mu} {l : Nat} {a : Addr} {kvs : List (Key × D)} (s : SR0 K n μ) (ha : n.al[l]? = some a) (hc : μ[l]? = some (.dct kvs)) :
    ∃ n' : Now, n'.H = n.H ∧ Step n n' ∧ SR0 K n' (μ.set l .gone) ∧ Rep K n'.Hb n'.al (.ref a) (.dct kvs) := by
  obtain ⟨hb, us, g1, g2, g3⟩ := s.cell _ _ _ ha hc
  have hs : Same n.Hb (upd n.Hb a (.dK us)) := same_upd hb
  have hsl : SameL n.Hb (upd n.Hb a (.dK us)) := Same.l hs
  have hne : ∀ b, b ≠ a → upd n.Hb a (.dK us) b = n.Hb b := fun b h => upd_ne h
  have stp : Step n ⟨upd n.Hb a (.dK us), n.H, n.al, n.ph⟩ := ⟨hsl, List.prefix_refl _, fun b o e => by
    by_cases h : b = a
    · subst h; exact .inr (.inr (List.mem_of_getElem? ha))
    · exact .inl (by show n.Hb b ≠ none; rw [← hne b h]; rw [show upd n.Hb a (.dK us) b = some o from e]; simp), fun b hb => .inl hb, fun b hb => .inl hb, fun b o e _ _ _ => e, fun b e => e⟩
  have hR : RepK K (upd n.Hb a (.dK us)) n.al us kvs := ⟨g2, g3.mono hs (List.prefix_refl _)⟩
  refine ⟨⟨upd n.Hb a (.dK us), n.H, n.al, n.ph⟩, rfl, stp, ⟨fun b o e => ?_, by rw [List.length_set]; exact s.len, s.nd, fun i b c e1 e2 => ?_, s.alh, fun i j x y e1 e2 => ?_, fun b hb' => ?_⟩, ?_⟩
  · by_cases h : b = a
    · subst h
      have e' : upd n.Hb b (.dK us) b = some o := e
      rw [upd_same] at e'; cases e'; exact g1
    · exact s.same _ _ (by rw [← hne b h]; exact e)
  · rw [List.getElem?_set] at e2
    by_cases hi : l = i
    · rw [if_pos hi] at e2
      split at e2
      · cases e2; trivial
      · cases e2
    · rw [if_neg hi] at e2
      have q := s.cell i b c e1 e2
      have ne : b ≠ a := fun z => by
        subst z
        exact hi ((List.getElem?_inj (List.getElem?_eq_some_iff.mp ha).1 s.nd).mp (ha.trans e1.symm))
      cases c with
      | gone => trivial
      | lst ds => obtain ⟨h0, vs, h1, h2⟩ := q; exact ⟨(hne b ne).trans h0, vs, h1, h2.mono hs (List.prefix_refl _)⟩
      | dct ds => obtain ⟨h0, vs, h1, hk, h2⟩ := q; exact ⟨(hne b ne).trans h0, vs, h1, hk, h2.mono hs (List.prefix_refl _)⟩
      | ins C ds => obtain ⟨h0, dx, vs, h1, hk, h2⟩ := q; exact ⟨(hne b ne).trans h0, dx, vs, h1, hk, h2.mono hs (List.prefix_refl _)⟩
      | orc k => obtain ⟨h0, h1⟩ := q; exact ⟨(hne b ne).trans h0, h1.grow rfl fun b hb => rfl⟩
      | exc dd fs => obtain ⟨h0, he, vs, h1, h2, h3⟩ := q; exact ⟨(hne b ne).trans h0, he, vs, h1, h2, fun f v e => let ⟨d, e1, e2⟩ := h3 f v e; ⟨d, e1, e2.mono hs (List.prefix_refl _)⟩⟩
  · rw [List.getElem?_set] at e1 e2
    have f : ∀ (i : Nat) x, (if l = i then if l < μ.length then some Cell.gone else none else μ[i]?) = some (.orc x) → μ[i]? = some (.orc x) := fun i x e => by
      split at e
      · split at e <;> cases e
      · exact e
    exact s.orc1 i j x y (f i x e1) (f j y e2)
  · obtain ⟨h1, h2, h3⟩ := s.phb b hb'
    exact ⟨(hne b (fun z => h2 (z ▸ List.mem_of_getElem? ha))).trans h1, h2, h3⟩
  · have z : Rep K (upd n.Hb a (.dK us)) n.al (.ref a) (.dct ((us.map (·.1)).zip (kvs.map (·.2)))) := .dct (.inl upd_same) rfl hR.2
    rw [zip_maps _ _ g2] at z
    exact z
def dThaw (i : Nat) (T : DTS) : DTS := fun D Γ μ => T D Γ μ ∨ ∃ l kvs, Γ[i]? = some (some (.ref l)) ∧ μ[l]? = some (.dct kvs) ∧ T D (Γ.set i (some (.dct kvs))) (μ.set l .gone)
theorem ds_thaw {i : Nat} {st : Stmt} {T : DTS} (h : DS X W st T) : DS X W st (dThaw i T) := PS.imp h fun Dn σ H ⟨A, n, Γ, μ, Dd, hH, sa, sr, gr, h, l⟩ => by
  rcases h with h | ⟨k, kvs, e1, e2, h⟩
  · exact ⟨A, n, Γ, μ, Dd, hH, sa, sr, gr, h, l⟩
  · obtain ⟨v, hv, rv⟩ := gr.at_ i _ e1
    cases rv with
    | @ref _ a ha =>
      obtain ⟨n', hn, stp, sr', rp⟩ := thaw sr ha e2
      have g' := (gr.step stp).set rp i
      have es : σ.set i (some (.ref a)) = σ := by
        refine List.ext_getElem? fun j => ?_
        rw [List.getElem?_set]
        by_cases hj : i = j
        · subst hj
          rw [if_pos rfl, if_pos (List.getElem?_eq_some_iff.mp hv).1, hv]
        · rw [if_neg hj]
      rw [es] at g'
      exact ⟨A, n', _, _, Dd, hn.trans hH, sa.trans stp, sr', g', h, l⟩
end
end DV
/-! set(xs) of integers; sorted(set(xs)). -/
namespace DV
open PySem PySem.Spec PyProof.Rows L2 PySem.Froz
def addI (l : List Int) (k : Int) : List Int := if k ∈ l then l else k :: l
/-- the set of ints at a -/
def SetI (w : World) (h : Heap) (a : Addr) (l : List Int) : Prop := l.Nodup ∧ SetR w h a (fun j => decide (j ∈ l)) l.length
theorem SetI.keep {w : World} {h h' : Heap} {a : Addr} {l : List Int} (r : SetI w h a l) (k : ∀ o, h.get? a = some o → h'.get? a = some o) : SetI w h' a l := ⟨r.1, r.2.at k⟩
theorem setI_fresh {w : World} {h : Heap} : SetI w (h.push { cls := .type "set", dict := none, data := .set #[] 0 (.fresh 0 0 (!w.params.followText "set-order")) }) h.objs.size [] :=
  ⟨List.nodup_nil, (setR_fresh w).congr fun k => by simp⟩
section
variable {P : Program} {w : World} {A : Around} {E : Value → Shared → Prop} {s : Shared} {a : Addr} {l : List Int}
theorem setI_hashed {k : Int} {u : Tok} {Q : Bool → Shared → Prop} (r : SetI w s.heap a l) (room : l.length + 1 < scanBound)
    (hQ : ∀ b h', Heap.SameBut a s.heap h' → SetI w h' a (addI l k) → Q b { s with heap := h' }) : wpAny (model P w) A (setAddHashed a (.int k u) ((intKind P w).hash k)) Q E s := by
  obtain ⟨nd, R⟩ := r
  refine setR_add_hashed R room fun h' sb R2 => hQ _ h' sb ?_
  unfold addI
  by_cases hk : k ∈ l
  · rw [if_pos hk]
    rw [if_pos (decide_eq_true hk)] at R2
    exact ⟨nd, R2.congr fun j => by by_cases z : j = k <;> simp [z, hk]⟩
  · rw [if_neg hk]
    rw [if_neg (by simpa using hk)] at R2
    exact ⟨List.nodup_cons.mpr ⟨hk, nd⟩, R2.congr fun j => by by_cases z : j = k <;> simp [z, hk]⟩
theorem addI_len (l : List Int) (k : Int) : (addI l k).length ≤ l.length + 1 := by
  unfold addI; split <;> simp
theorem foldI_len : ∀ (ks l : List Int), (ks.foldl addI l).length ≤ l.length + ks.length
  | [], l => by simp
  | k :: ks, l => by
    have := foldI_len ks (addI l k)
    have := addI_len l k
    simp only [List.foldl_cons, List.length_cons]; omega
theorem set_update_ints {I : Addr} {fp wr : List Addr} {G : Array GenState → Array GenState → Prop} {n : Nat} {Pv : Nat → Value → Prop} {St : Nat → Shared → Prop} {R : Result → Shared → Prop}
    (W : WalksS P w A.in1 I fp wr G n Pv St) (S : Addr) (hSf : S ∉ fp) (ks : List Int) (hn : n = ks.length) (hb : ks.length + 1 < scanBound) (hval : ∀ i v, Pv i v → ∃ k t, ks[i]? = some k ∧ v = .int k t) :
    ∀ (k i : Nat) (s : Shared), n - i = k → i ≤ n → St i s → SetI w s.heap S ((ks.take i).foldl addI []) →
      (∀ s', Moved (S :: wr) G s s' → SetI w s'.heap S (ks.foldl addI []) → R (.ok (.ret .none)) s') →
      codeAny (model P w) A (.builtin "set.update.loop" ⟨[.ref S, .ref I], []⟩) R s := by
  have hSw : S ∉ wr := fun h => hSf (W.sub _ h)
  have hsub : ∀ b ∈ wr, b ∈ S :: wr := fun b hb => List.mem_cons_of_mem _ hb
  intro k
  induction k with
  | zero =>
    intro i s hk' hi hst hS hR
    have hin : i = n := by omega
    subst hin
    refine codeAny_builtin F.entry_set_update_loop ?_
    rw [Around.under_plainId F.plain_set_update_loop _]
    show wpAny _ A.in1 (pyNext (.ref I) >>= _) _ _ s
    refine wpAny_bind (W.done s _ _ hst fun s' hm => ?_)
    show wpAny _ A.in1 (ret Value.none) _ _ s'
    have e : ks.take i = ks := List.take_of_length_le (by omega)
    rw [e] at hS
    exact wpAny_pure (hR s' (hm.mono hsub) (hS.keep fun o e => hm.heap S o hSw e))
  | succ k ih =>
    intro i s hk' hi hst hS hR
    have hlt : i < n := by omega
    refine codeAny_builtin F.entry_set_update_loop ?_
    rw [Around.under_plainId F.plain_set_update_loop _]
    show wpAny _ A.in1 (pyNext (.ref I) >>= _) _ _ s
    refine wpAny_bind (W.item i s _ _ hlt hst fun v s' hP hst' hm => ?_)
    obtain ⟨z, t, hz, rfl⟩ := hval i v hP
    have hS' : SetI w s'.heap S ((ks.take i).foldl addI []) := hS.keep fun o e => hm.heap S o hSw e
    have hlen : ((ks.take i).foldl addI []).length + 1 < scanBound := by
      have := foldI_len (ks.take i) []
      rw [List.length_take, List.length_nil] at this
      omega
    show wpAny _ A.in1 (holding [Value.int z t] (setAdd S (.int z t)) >>= _) _ _ s'
    refine wpAny_bind (wpAny_holding ?_)
    unfold setAdd
    refine wpAny_holding ?_
    refine wpAny_bind ((PySem.intKind P w).pyHash (k := z) (PySem.intKind_is P w z t) ?_)
    refine setI_hashed (s := { s' with toks := s'.toks + 1 }) hS' hlen fun b h' hsb hS2 => ?_
    have hS3 : SetI w h' S ((ks.take (i + 1)).foldl addI []) := by
      rw [List.take_add_one, hz]
      simpa [List.foldl_append] using hS2
    refine wpAny_pure ⟨plainId_quiet F.plain_set_update_loop _, ih (i + 1) _ (by omega) hlt (W.frame _ s' _ _ hst' (Nat.le_succ _) fun b hb o e => ?_) hS3 fun s'' hm'' hS'' => ?_⟩
    · rw [hsb.2 b (fun h : b = S => hSf (by rw [← h]; exact hb))]; exact e
    · refine hR s'' (Moved.trans W.gtrans ((hm.mono hsub).then_heap (Nat.le_succ _) fun b o hb e => ?_) hm'') hS''
      rw [hsb.2 b (fun h : b = S => hb (by rw [h]; exact List.mem_cons_self))]; exact e
end
section
variable {P : Program} {w : World} {A : Around} {E : Value → Shared → Prop} {s : Shared}
theorem intsv_at : ∀ {us : List Value} {ks : List Int}, Vals (ks.map V.int) us → ∀ (i : Nat) v, us[i]? = some v → ∃ k t, ks[i]? = some k ∧ v = .int k t
  | _, [], .nil => fun i v h => by simp at h
  | _, k :: ks, .cons r t => fun i v h => by
    cases i with
    | zero =>
      simp at h; subst h
      obtain ⟨tk, rfl⟩ := r
      exact ⟨k, tk, rfl, rfl⟩
    | succ i => exact intsv_at t i v (by simpa using h)
set_option maxHeartbeats 3200000 in
theorem call_set_listN {l : Addr} {items : Array Value} (ks : List Int) {Q : Value → Shared → Prop} (hh : A.handled = none) (hl : s.heap.IsList l items) (hit : Vals (ks.map V.int) items.toList) (hb : ks.length + 1 < scanBound)
    (h : ∀ (h' : Heap) (tk : Nat), SetI w h' s.heap.objs.size (ks.foldl addI []) → (∀ b o, s.heap.get? b = some o → h'.get? b = some o) → Q (.ref s.heap.objs.size) { s with heap := h', toks := tk }) :
    wpAny (model P w) A (call (.type "set") [.ref l]) Q E s := by
  have hisz : items.size = ks.length := by
    have q := hit.length
    simpa using q.symm
  obtain ⟨c, tl, hmro⟩ := F.called_set.mro
  have hmade := F.called_set.made
  have hsub := F.called_set.sub
  refine wpAny_call (codeAny_of_tree ?_)
  show wpAny _ _ (callAny (.type "set") _) _ _ _
  refine wpAny_pure ⟨Code.quiet_builtin _ (by decide +kernel), codeAny_builtin F.entry_type_call ?_⟩
  rw [Around.under_plain (weight_type_call_type "set" [.ref l] []) rfl]
  have h1 := F.called_set.notType
  have h2 := F.called_set.canCreate
  have hct := F.typeCall_set_1 (.ref l)
  repeat (any_goals (first | assumption | wp_step))
  refine codeAny_mono (code_set_led1 (.ref l) (E := E) (Q₁ := fun obj s₁ => obj = .ref s.heap.objs.size ∧ s₁ = { s with heap := s.heap.push { cls := .type "set", dict := none, data := .set #[] 0 (.fresh 0 0 (!w.params.followText "set-order")) } }) ⟨rfl, rfl⟩) fun r s₁ hr => ?_
  cases r with
  | error e => exact hr
  | ok fl =>
    cases fl with
    | ret obj =>
      obtain ⟨rfl, rfl⟩ := hr
      have hS : (s.heap.push { cls := .type "set", dict := none, data := .set #[] 0 (.fresh 0 0 (!w.params.followText "set-order")) }).get? s.heap.objs.size = some { cls := .type "set", dict := none, data := .set #[] 0 (.fresh 0 0 (!w.params.followText "set-order")) } := Heap.get?_push_size _ rfl
      have hT : Shared.TypeIs { s with heap := s.heap.push { cls := .type "set", dict := none, data := .set #[] 0 (.fresh 0 0 (!w.params.followText "set-order")) } } (.ref s.heap.objs.size) "set" := ⟨_, hS, rfl⟩
      have hli := F.called_set.init.lookup
      have hbi := F.called_set.init.bind (.ref s.heap.objs.size)
      repeat (any_goals (first | assumption | wp_step))
      refine codeAny_mono (codeAny_call_builtin (R := wants (fun r s₂ => r = .none ∧ ∃ h' tk, s₂ = { s with heap := h', toks := tk } ∧ SetI w h' s.heap.objs.size (ks.foldl addI []) ∧
          (∀ b o, s.heap.get? b = some o → h'.get? b = some o)) E) F.called_set.init.plain F.entry_set_init (check_set_init_1 hT ?_)) fun r₂ s₂ hr₂ => ?_
      · obtain ⟨ol, hol, hcl, nl, hdl⟩ := hl
        obtain ⟨ocls, odict, odata, oslots⟩ := ol
        simp only at hcl hdl
        subst hcl; subst hdl
        have hol' : (s.heap.push { cls := .type "set", dict := none, data := .set #[] 0 (.fresh 0 0 (!w.params.followText "set-order")) }).get? l = some { cls := .type "list", dict := odict, data := .seq items nl, slots := oslots } := Heap.get?_push_of_some _ hol
        have hsls := F.sub_list_set
        have hslf := F.sub_list_frozenset
        have hne : (Value.type "list" == Value.type "dict") = false := by decide
        have hl1 : (s.heap.push { cls := .type "set", dict := none, data := .set #[] 0 (.fresh 0 0 (!w.params.followText "set-order")) }).IsList l items := ⟨_, hol', rfl, nl, rfl⟩
        unfold Builtin.«set.__init__» noKeywords Builtin.Frozenset.updateFrom
        generalize hPI : pyIter = PI
        wp_walk
        subst hPI
        refine wpAny_pyIter_list hl1 ?_
        refine wpAny_bind (wpAny_runValue ?_)
        have hlS : l < s.heap.objs.size := Heap.lt_size hol
        have hh3 : A.in1.in1.in1.handled = none := by simp [hh]
        have hneI : l ≠ (s.heap.push { cls := .type "set", dict := none, data := .set #[] 0 (.fresh 0 0 (!w.params.followText "set-order")) }).objs.size := by
          rw [Heap.size_push]; exact Nat.ne_of_lt (Nat.lt_succ_of_lt hlS)
        have hSf : s.heap.objs.size ∉ [(s.heap.push { cls := .type "set", dict := none, data := .set #[] 0 (.fresh 0 0 (!w.params.followText "set-order")) }).objs.size, l] := by
          rw [Heap.size_push]; simp only [List.mem_cons, List.mem_singleton, List.not_mem_nil, or_false, not_or]
          exact ⟨Nat.ne_of_lt (Nat.lt_succ_self _), Nat.ne_of_gt hlS⟩
        have hval : ∀ (i : Nat) (v : Value), items[i]? = some v → ∃ k t, ks[i]? = some k ∧ v = .int k t := fun i v hv => intsv_at hit i v (by rw [Array.getElem?_toList]; exact hv)
        refine set_update_ints ((Walks.list hh3 _ l hneI items).toS) s.heap.objs.size
          hSf ks hisz hb hval (items.size - 0) 0 _ (by omega) (Nat.zero_le _)
          ⟨⟨_, Heap.get?_push_size _ rfl, rfl, rfl⟩, (hl1.push _)⟩ ?hS0 ?hR
        case hS0 => exact SetI.keep setI_fresh fun o e => Heap.get?_push_of_some _ e
        case hR =>
          intro s' hm hS'
          obtain ⟨h', g2, d', tk', os'⟩ := s'
          have eg : g2 = s.gens := hm.gens
          have ed : d' = s.drawn := hm.drawn
          have eo : os' = s.os := hm.os
          subst eg; subst ed; subst eo
          show wpAny _ _ _ _ _ _
          refine wpAny_pure ?_
          show wpAny _ _ (ret Value.none) _ _ _
          refine wpAny_pure ⟨rfl, h', tk', rfl, hS', fun b o e => ?_⟩
          have hb0 : b < s.heap.objs.size := Heap.lt_size e
          have hb1 : b ≠ s.heap.objs.size := Nat.ne_of_lt hb0
          have hb2 : b ≠ (s.heap.push { cls := .type "set", dict := none, data := .set #[] 0 (.fresh 0 0 (!w.params.followText "set-order")) }).objs.size := by
            rw [Heap.size_push]; exact Nat.ne_of_lt (Nat.lt_succ_of_lt hb0)
          exact hm.heap b o (by simp only [List.mem_cons, List.mem_singleton, List.not_mem_nil, or_false, not_or]; exact ⟨hb1, hb2⟩) (Heap.get?_push_of_some _ (Heap.get?_push_of_some _ e))
      · cases r₂ with
        | error e => exact hr₂
        | ok fl₂ =>
          cases fl₂ with
          | ret r =>
            obtain ⟨rfl, h', tk, rfl, hS', hk'⟩ := hr₂
            repeat (any_goals (first | assumption | wp_step))
            exact h _ _ hS' hk'
          | _ => exact hr₂.elim
    | _ => exact hr.elim
end
section
variable {X : Cx} {W : WX} {a : Expr} {p p2 pos pos2 : Pos} {fa : DTE}
theorem foldI_mem {x : Int} : ∀ (ks l : List Int), x ∈ ks.foldl addI l ↔ x ∈ l ∨ x ∈ ks
  | [], l => by simp
  | k :: ks, l => by
    rw [List.foldl_cons, foldI_mem ks]
    unfold addI
    by_cases h : k ∈ l
    · rw [if_pos h, List.mem_cons]
      constructor
      · rintro (z | z)
        · exact .inl z
        · exact .inr (.inr z)
      · rintro (z | rfl | z)
        · exact .inl z
        · exact .inl h
        · exact .inr z
    · rw [if_neg h, List.mem_cons, List.mem_cons]
      constructor
      · rintro ((rfl | z) | z)
        · exact .inr (.inl rfl)
        · exact .inl z
        · exact .inr (.inr z)
      · rintro (z | rfl | z)
        · exact .inl (.inr z)
        · exact .inl (.inl rfl)
        · exact .inr z
def rSetN (K : PySem.W.Frag) (w : World) : List V → Hp → VK → Prop := fun xs H Q => ∃ (l : Addr) (ks : List Int), xs = [V.ref l] ∧ SqL K H l (ks.map V.int) ∧ ks.length + 1 < scanBound ∧ ∀ p, H p = none → Q (.ref p) (upd H p (SetO w p (fun j => decide (j ∈ ks.foldl addI [])) (ks.foldl addI []).length))
theorem cr_setN (hc : X.calm = true) : CallR X (.type "set") (rSetN X.K X.w) := by
  intro pins s σ H xs us Q I r h
  obtain ⟨l, ks, rfl, hl, hf, q⟩ := h
  rw [Vals.ref1 r]
  have hn : H s.heap.objs.size = none := I.hok.fresh (Nat.le_refl _)
  obtain ⟨its, rv, pl, hz⟩ := I.list hl
  exact call_set_listN (P := X.prog) (w := X.w) ks (I.ok.hd hc) pl.isList rv hf fun h' tk R k => ⟨.ref s.heap.objs.size, upd H s.heap.objs.size (SetO X.w s.heap.objs.size (fun j => decide (j ∈ ks.foldl addI [])) (ks.foldl addI []).length), I.laid (t' := tk) k (Nat.le_refl _) (setO_new R.2), rfl, q _ hn⟩
def intsD (μ : Mu) (d : D) : Option (List Int) := match lk μ d with
  | .lst xs => xs.mapM fun x => match x with | .int z => some z | _ => none
  | _ => none
theorem mapM_ints : ∀ {xs : List D} {ks : List Int}, (xs.mapM fun x => match x with | D.int z => some z | _ => none) = some ks → xs = ks.map .int
  | [], ks, h => by cases h; rfl
  | x :: xs, ks, h => by
    rw [List.mapM_cons] at h
    cases x with
    | int z =>
      cases hr : (xs.mapM fun x => match x with | D.int z => some z | _ => none) with
      | none => rw [hr] at h; cases h
      | some l => rw [hr] at h; cases h; rw [mapM_ints hr]; rfl
    | _ => cases h
theorem ints_mapM : ∀ (ks : List Int), ((ks.map D.int).mapM fun x => match x with | D.int z => some z | _ => none) = some ks
  | [] => rfl
  | k :: ks => by rw [List.map_cons, List.mapM_cons, ints_mapM ks]; rfl
theorem repsI {K : PySem.W.Frag} {Hb : Hp} {al : List Addr} : ∀ (ns : List Int), Reps K Hb al (ns.map V.int) (ns.map D.int)
  | [] => .nil
  | n :: ns => .cons (.int n) (repsI ns)
theorem Reps.intsV {K : PySem.W.Frag} {Hb : Hp} {al : List Addr} : ∀ {vs : List V} (ns : List Int), Reps K Hb al vs (ns.map D.int) → vs = ns.map V.int
  | _, [], h => by cases h; rfl
  | _, n :: ns, h => by
    cases h with
    | cons h1 h2 => cases h1; rw [Reps.intsV ns h2]; rfl
/-- sorted(set(xs)) of integers -/
def gSortSetN (fz : Bool) : GN := fun ds μ Q => match ds with
  | [d] => (match intsD μ d with
    | some ks => ks.length < 60 ∧ ∀ ns : List Int, ns.Pairwise (· < ·) → (∀ k, k ∈ ns ↔ k ∈ ks) → dFin fz (ns.map .int) μ Q
    | none => False)
  | _ => False
theorem ssetN_go {K : PySem.W.Frag} {w : World} {fz : Bool} (σ : L2.St) (H : Hp) (Q : VK) (h : lift K W (dCall (gSortSetN fz) (dCons fa dNil)) σ H Q) :
    lift K W fa σ H fun x H1 => rSetN K w [x] H1 fun y H2 => rSortedSet w [y] H2 Q := by
  obtain ⟨n, Γ, μ, Qd, Ed, hH, sr, gr, h, hq, hx⟩ := h
  subst hH
  refine lift_go sr gr h (fun n1 x dx μ1 s1 r1 p1 q1 => ?_) hx
  have q1 : gSortSetN fz [dx] μ1 Qd := q1
  unfold gSortSetN at q1
  dsimp only at q1
  cases ht : intsD μ1 dx with
  | none => rw [ht] at q1; exact q1.elim
  | some ks =>
    rw [ht] at q1
    have hb : ks.length + 1 < scanBound := by have := q1.1; unfold scanBound; omega
    unfold intsD at ht
    split at ht
    · rename_i xs e
      have ex := mapM_ints ht
      subst ex
      obtain ⟨l, vs, rfl, h1, h2⟩ := see_lst r1 p1 e
      rw [Reps.intsV _ h2] at h1
      refine ⟨l, ks, rfl, .inl (.inl h1), hb, fun p hp => ⟨p, _, _, rfl, upd_same, ?_, fun ns l' o1 o2 o3 hl' => ?_⟩⟩
      · have := foldI_len ks []
        have := q1.1
        simp only [List.length_nil] at *
        omega
      · exact fin_lst (n := n1.more p (SetO w p (fun j => decide (j ∈ ks.foldl addI [])) (ks.foldl addI []).length)) (LV.step hq (s1.trans (Step.more hp))) (r1.more hp) hl' (repsI ns) (q1.2 ns o1 fun k => by rw [o2 k, decide_eq_true_eq, foldI_mem]; simp)
    · cases ht
theorem de_sortSetN (fz : Bool) (hgl : Gl X "sorted") (hm : X.mg "sorted" = none) (hc : X.calm = true) (hgl2 : Gl X "set") (hm2 : X.mg "set" = none) (ha : DE X W a fa) (hs : starEach [a] X.env = (false, eval a X.env) :: starEach [] X.env := by rfl) (hs2 : starEach [Expr.Call (.Name "set" p2) [a] [] pos2] X.env = (false, eval (Expr.Call (.Name "set" p2) [a] [] pos2) X.env) :: starEach [] X.env := by rfl) :
    DE X W (.Call (.Name "sorted" p) [.Call (.Name "set" p2) [a] [] pos2] [] pos) (dCall (gSortSetN fz) (dCons fa dNil)) :=
  PE.imp (pe_callB (cr_sortedSet hc) hgl hm (by decide +kernel) (pa_cons (pe_callTy (cr_setN hc) hgl2 hm2 (by decide +kernel) (pa_cons ha pa_nil hs) (by decide) (by decide) hs rfl) pa_nil hs2) (by decide) (by decide) hs2 rfl) fun σ H Q h => ssetN_go σ H Q h
end
end DV
/-! != by an own __eq__ of a class that has no own __ne__. -/
namespace DV
open PySem PySem.Spec PyProof.Rows L2 PySem.W Builtin
end DV
/-! == of a dict and a value of another kind. -/
namespace DV
open PySem PySem.Spec PyProof.Rows PySem.Calls PyProof.V Builtin SeqAt
section
variable {prog : Program} {w : World} {A : Around} {E : Value → Shared → Prop} {s : Shared}
def IsDct (h : Heap) (a : Addr) : Prop := ∃ o es ep, h.get? a = some o ∧ o.cls = .type "dict" ∧ o.data = .dict es ep
theorem IsDct.ty {a : Addr} (x : IsDct s.heap a) : s.TypeIs (.ref a) "dict" := let ⟨o, _, _, ho, hc, _⟩ := x; ⟨o, ho, hc⟩
theorem dict_declines {a : Addr} {y : Value} {T : String} {Q : Value → Shared → Prop} (da : s.TypeIs (.ref a) "dict") (hy : s.TypeIs y T) (hsub : isSubtype (.type T) (.type "dict") = pure false) (hq : Q .notImplemented s) :
    wpAny (model prog w) A (call (.builtin "dict.__eq__") [.ref a, y]) Q E s := by
  refine wpAny_call_entry PySem.F.slot_dict_eq da PySem.F.entry_dict_eq ?_ (PySem.F.args_dict_eq_2 _ _)
  show wpAny _ _ (Builtin.Dict.dictSlotArgs "__eq__" ⟨[.ref a, y], []⟩ >>= _) _ _ s
  refine wpAny_bind ?_
  unfold Builtin.Dict.dictSlotArgs
  refine wpAny_bind (wpAny_notOrdered_dict da ?_)
  show wpAny _ _ (pure (Value.ref a, y)) _ _ s
  refine wpAny_pure ?_
  refine wpAny_bind (wpAny_isInstance (T := T) hy hsub ?_)
  simp only [Bool.not_false, if_true]
  refine wpAny_bind (wpAny_rule (wpAny_pure ?_))
  first | exact ⟨_, rfl, hq⟩ | exact hq
theorem int_eq_declines_dict (b : Int) (u : Tok) (l : Addr) (es : Array DictEntry) (ep : Nat) (dd : Option Addr) (sl : Array (Option Value)) :
    Meets (Builtin.«int.__eq__» ⟨[.int b u, .ref l], []⟩) (fun _ R s => s.heap.get? l = some { cls := .type "dict", dict := dd, data := .dict es ep, slots := sl } ∧ R (.ok (.ret .notImplemented)) s) :=
  .of_wp fun prog w A R s h => by obtain ⟨hp, g, d, tk, os⟩ := s; obtain ⟨hl, h⟩ := h; wp_walk using wpAny_loadPart' hl, wpAny_load hl; exact ⟨_, rfl, h⟩
theorem bool_eq_declines_dict (b : Bool) (l : Addr) (es : Array DictEntry) (ep : Nat) (dd : Option Addr) (sl : Array (Option Value)) :
    Meets (Builtin.«int.__eq__» ⟨[.bool b, .ref l], []⟩) (fun _ R s => s.heap.get? l = some { cls := .type "dict", dict := dd, data := .dict es ep, slots := sl } ∧ R (.ok (.ret .notImplemented)) s) :=
  .of_wp fun prog w A R s h => by obtain ⟨hp, g, d, tk, os⟩ := s; obtain ⟨hl, h⟩ := h; wp_walk using wpAny_loadPart' hl, wpAny_load hl; exact ⟨_, rfl, h⟩
theorem str_eq_declines_dict (b : Str) (u : Tok) (l : Addr) (es : Array DictEntry) (ep : Nat) (dd : Option Addr) (sl : Array (Option Value)) :
    Meets (Builtin.«str.__eq__» ⟨[.str b u, .ref l], []⟩) (fun _ R s => s.heap.get? l = some { cls := .type "dict", dict := dd, data := .dict es ep, slots := sl } ∧ R (.ok (.ret .notImplemented)) s) :=
  .of_wp fun prog w A R s h => by obtain ⟨hp, g, d, tk, os⟩ := s; obtain ⟨hl, h⟩ := h; wp_walk using wpAny_loadPart' hl, wpAny_load hl; exact ⟨_, rfl, h⟩
theorem list_eq_declines_dict (a : Addr) (items : Array Value) (n : Nat) (da : Option Addr) (sa : Array (Option Value)) (l : Addr) (es : Array DictEntry) (ep : Nat) (dd : Option Addr) (sl : Array (Option Value)) :
    Meets (Builtin.«list.__eq__» ⟨[.ref a, .ref l], []⟩) (fun _ R s => s.heap.get? a = some { cls := .type "list", dict := da, data := .seq items n, slots := sa } ∧ s.heap.get? l = some { cls := .type "dict", dict := dd, data := .dict es ep, slots := sl } ∧ R (.ok (.ret .notImplemented)) s) :=
  .of_wp fun prog w A R s h => by obtain ⟨hp, g, d, tk, os⟩ := s; obtain ⟨ha, hl, h⟩ := h; have f1 := F.sub_dict_list; wp_walk using wpAny_loadPart' ha, wpAny_loadPart' hl; exact ⟨_, rfl, h⟩
theorem tuple_eq_declines_dict (a : Addr) (items : Array Value) (n : Nat) (da : Option Addr) (sa : Array (Option Value)) (l : Addr) (es : Array DictEntry) (ep : Nat) (dd : Option Addr) (sl : Array (Option Value)) :
    Meets (Builtin.«tuple.__eq__» ⟨[.ref a, .ref l], []⟩) (fun _ R s => s.heap.get? a = some { cls := .type "tuple", dict := da, data := .seq items n, slots := sa } ∧ s.heap.get? l = some { cls := .type "dict", dict := dd, data := .dict es ep, slots := sl } ∧ R (.ok (.ret .notImplemented)) s) :=
  .of_wp fun prog w A R s h => by obtain ⟨hp, g, d, tk, os⟩ := s; obtain ⟨ha, hl, h⟩ := h; have f1 := F.sub_dict_tuple; wp_walk using wpAny_loadPart' ha, wpAny_loadPart' hl; exact ⟨_, rfl, h⟩
theorem RcAt.dict_none {a : Addr} (db : IsDct s.heap a) (hu : A.units < cLine) : RcAt A s (.ref a) .none false := fun prog w E Q h => by
  have da := db.ty
  obtain ⟨⟨cls, dd, dt, sl⟩, es, ep, ho, hc, hdt⟩ := id db
  simp only at hc hdt
  subst hc hdt
  exact rc_eq_decline_or (k := false) ⟨_, ho, rfl⟩ rfl (by decide) F.sub_NoneType_dict F.slot_dict_eq F.slot_NoneType_eq_refl
    (fun _ hq => dict_declines da rfl F.sub_NoneType_dict hq)
    (fun _ hq => call_gives F.slot_NoneType_eq_refl rfl F.entry_NoneType_eq (F.args_NoneType_eq_2 _ _) (NoneType___eq___none_ref_0 a) hq)
    (fun _ hq => wpAny_of_eq (rfl : isSame (.ref a) .none = pure false) hq) (.inr hu) h
theorem EqAt.dict_none {a : Addr} (db : IsDct s.heap a) (hu : A.units < cLine) : EqAt A s (.ref a) .none false := fun prog w E Q h => by
  unfold eqBool
  refine wpAny_holding ?_
  refine wpAny_ite_split (fun hab => absurd (eq_of_beq hab) nofun) (fun _ => ?_)
  exact wpAny_bind (RcAt.dict_none db hu prog w E _ (wpAny_truthy_bool h))
theorem RcAt.none_dict {a : Addr} (db : IsDct s.heap a) (hu : A.units < cLine) : RcAt A s .none (.ref a) false := fun prog w E Q h => by
  have da := db.ty
  obtain ⟨⟨cls, dd, dt, sl⟩, es, ep, ho, hc, hdt⟩ := id db
  simp only at hc hdt
  subst hc hdt
  exact rc_eq_decline_or (k := false) rfl ⟨_, ho, rfl⟩ (by decide) F.sub_dict_NoneType F.slot_NoneType_eq F.slot_dict_eq_refl
    (fun _ hq => call_gives F.slot_NoneType_eq rfl F.entry_NoneType_eq (F.args_NoneType_eq_2 _ _) (NoneType___eq___none_ref_0 a) hq)
    (fun _ hq => dict_declines da rfl F.sub_NoneType_dict hq)
    (fun _ hq => wpAny_of_eq (rfl : isSame .none (.ref a) = pure false) hq) (.inr hu) h
theorem EqAt.none_dict {a : Addr} (db : IsDct s.heap a) (hu : A.units < cLine) : EqAt A s .none (.ref a) false := fun prog w E Q h => by
  unfold eqBool
  refine wpAny_holding ?_
  refine wpAny_ite_split (fun hab => absurd (eq_of_beq hab) nofun) (fun _ => ?_)
  exact wpAny_bind (RcAt.none_dict db hu prog w E _ (wpAny_truthy_bool h))
theorem RcAt.dict_bool (b : Bool) {a : Addr} (db : IsDct s.heap a) (hu : A.units < cLine) : RcAt A s (.ref a) (.bool b) false := fun prog w E Q h => by
  have da := db.ty
  obtain ⟨⟨cls, dd, dt, sl⟩, es, ep, ho, hc, hdt⟩ := id db
  simp only at hc hdt
  subst hc hdt
  exact rc_eq_decline_or (k := false) ⟨_, ho, rfl⟩ rfl (by decide) F.sub_bool_dict F.slot_dict_eq F.slot_bool_eq_refl
    (fun _ hq => dict_declines da rfl F.sub_bool_dict hq)
    (fun _ hq => call_meets F.slot_bool_eq_refl rfl F.entry_int_eq (F.args_int_eq_2 _ _) (bool_eq_declines_dict b a es ep dd sl) ⟨ho, hq⟩)
    (fun _ hq => wpAny_of_eq (rfl : isSame (.ref a) (.bool b) = pure false) hq) (.inr hu) h
theorem EqAt.dict_bool (b : Bool) {a : Addr} (db : IsDct s.heap a) (hu : A.units < cLine) : EqAt A s (.ref a) (.bool b) false := fun prog w E Q h => by
  unfold eqBool
  refine wpAny_holding ?_
  refine wpAny_ite_split (fun hab => absurd (eq_of_beq hab) nofun) (fun _ => ?_)
  exact wpAny_bind (RcAt.dict_bool b db hu prog w E _ (wpAny_truthy_bool h))
theorem RcAt.bool_dict (b : Bool) {a : Addr} (db : IsDct s.heap a) (hu : A.units < cLine) : RcAt A s (.bool b) (.ref a) false := fun prog w E Q h => by
  have da := db.ty
  obtain ⟨⟨cls, dd, dt, sl⟩, es, ep, ho, hc, hdt⟩ := id db
  simp only at hc hdt
  subst hc hdt
  exact rc_eq_decline_or (k := false) rfl ⟨_, ho, rfl⟩ (by decide) F.sub_dict_bool F.slot_bool_eq F.slot_dict_eq_refl
    (fun _ hq => call_meets F.slot_bool_eq rfl F.entry_int_eq (F.args_int_eq_2 _ _) (bool_eq_declines_dict b a es ep dd sl) ⟨ho, hq⟩)
    (fun _ hq => dict_declines da rfl F.sub_bool_dict hq)
    (fun _ hq => wpAny_of_eq (rfl : isSame (.bool b) (.ref a) = pure false) hq) (.inr hu) h
theorem EqAt.bool_dict (b : Bool) {a : Addr} (db : IsDct s.heap a) (hu : A.units < cLine) : EqAt A s (.bool b) (.ref a) false := fun prog w E Q h => by
  unfold eqBool
  refine wpAny_holding ?_
  refine wpAny_ite_split (fun hab => absurd (eq_of_beq hab) nofun) (fun _ => ?_)
  exact wpAny_bind (RcAt.bool_dict b db hu prog w E _ (wpAny_truthy_bool h))
theorem RcAt.dict_int (b : Int) (u : Tok) {a : Addr} (db : IsDct s.heap a) (hu : A.units < cLine) : RcAt A s (.ref a) (.int b u) false := fun prog w E Q h => by
  have da := db.ty
  obtain ⟨⟨cls, dd, dt, sl⟩, es, ep, ho, hc, hdt⟩ := id db
  simp only at hc hdt
  subst hc hdt
  exact rc_eq_decline_or (k := false) ⟨_, ho, rfl⟩ (typeIs_int s b u) (by decide) F.sub_int_dict F.slot_dict_eq F.slot_int_eq_refl
    (fun _ hq => dict_declines da (typeIs_int s b u) F.sub_int_dict hq)
    (fun _ hq => call_meets F.slot_int_eq_refl (typeIs_int s b u) F.entry_int_eq (F.args_int_eq_2 _ _) (int_eq_declines_dict b u a es ep dd sl) ⟨ho, hq⟩)
    (fun _ hq => wpAny_of_eq (rfl : isSame (.ref a) (.int b u) = pure false) hq) (.inr hu) h
theorem EqAt.dict_int (b : Int) (u : Tok) {a : Addr} (db : IsDct s.heap a) (hu : A.units < cLine) : EqAt A s (.ref a) (.int b u) false := fun prog w E Q h => by
  unfold eqBool
  refine wpAny_holding ?_
  refine wpAny_ite_split (fun hab => absurd (eq_of_beq hab) nofun) (fun _ => ?_)
  exact wpAny_bind (RcAt.dict_int b u db hu prog w E _ (wpAny_truthy_bool h))
theorem RcAt.int_dict (b : Int) (u : Tok) {a : Addr} (db : IsDct s.heap a) (hu : A.units < cLine) : RcAt A s (.int b u) (.ref a) false := fun prog w E Q h => by
  have da := db.ty
  obtain ⟨⟨cls, dd, dt, sl⟩, es, ep, ho, hc, hdt⟩ := id db
  simp only at hc hdt
  subst hc hdt
  exact rc_eq_decline_or (k := false) (typeIs_int s b u) ⟨_, ho, rfl⟩ (by decide) F.sub_dict_int F.slot_int_eq F.slot_dict_eq_refl
    (fun _ hq => call_meets F.slot_int_eq (typeIs_int s b u) F.entry_int_eq (F.args_int_eq_2 _ _) (int_eq_declines_dict b u a es ep dd sl) ⟨ho, hq⟩)
    (fun _ hq => dict_declines da (typeIs_int s b u) F.sub_int_dict hq)
    (fun _ hq => wpAny_of_eq (rfl : isSame (.int b u) (.ref a) = pure false) hq) (.inr hu) h
theorem EqAt.int_dict (b : Int) (u : Tok) {a : Addr} (db : IsDct s.heap a) (hu : A.units < cLine) : EqAt A s (.int b u) (.ref a) false := fun prog w E Q h => by
  unfold eqBool
  refine wpAny_holding ?_
  refine wpAny_ite_split (fun hab => absurd (eq_of_beq hab) nofun) (fun _ => ?_)
  exact wpAny_bind (RcAt.int_dict b u db hu prog w E _ (wpAny_truthy_bool h))
theorem RcAt.dict_str (b : Str) (u : Tok) {a : Addr} (db : IsDct s.heap a) (hu : A.units < cLine) : RcAt A s (.ref a) (.str b u) false := fun prog w E Q h => by
  have da := db.ty
  obtain ⟨⟨cls, dd, dt, sl⟩, es, ep, ho, hc, hdt⟩ := id db
  simp only at hc hdt
  subst hc hdt
  exact rc_eq_decline_or (k := false) ⟨_, ho, rfl⟩ (typeIs_str s b u) (by decide) F.sub_str_dict F.slot_dict_eq F.slot_str_eq_refl
    (fun _ hq => dict_declines da (typeIs_str s b u) F.sub_str_dict hq)
    (fun _ hq => call_meets F.slot_str_eq_refl (typeIs_str s b u) F.entry_str_eq (F.args_str_eq_2 _ _) (str_eq_declines_dict b u a es ep dd sl) ⟨ho, hq⟩)
    (fun _ hq => wpAny_of_eq (rfl : isSame (.ref a) (.str b u) = pure false) hq) (.inr hu) h
theorem EqAt.dict_str (b : Str) (u : Tok) {a : Addr} (db : IsDct s.heap a) (hu : A.units < cLine) : EqAt A s (.ref a) (.str b u) false := fun prog w E Q h => by
  unfold eqBool
  refine wpAny_holding ?_
  refine wpAny_ite_split (fun hab => absurd (eq_of_beq hab) nofun) (fun _ => ?_)
  exact wpAny_bind (RcAt.dict_str b u db hu prog w E _ (wpAny_truthy_bool h))
theorem RcAt.str_dict (b : Str) (u : Tok) {a : Addr} (db : IsDct s.heap a) (hu : A.units < cLine) : RcAt A s (.str b u) (.ref a) false := fun prog w E Q h => by
  have da := db.ty
  obtain ⟨⟨cls, dd, dt, sl⟩, es, ep, ho, hc, hdt⟩ := id db
  simp only at hc hdt
  subst hc hdt
  exact rc_eq_decline_or (k := false) (typeIs_str s b u) ⟨_, ho, rfl⟩ (by decide) F.sub_dict_str F.slot_str_eq F.slot_dict_eq_refl
    (fun _ hq => call_meets F.slot_str_eq (typeIs_str s b u) F.entry_str_eq (F.args_str_eq_2 _ _) (str_eq_declines_dict b u a es ep dd sl) ⟨ho, hq⟩)
    (fun _ hq => dict_declines da (typeIs_str s b u) F.sub_str_dict hq)
    (fun _ hq => wpAny_of_eq (rfl : isSame (.str b u) (.ref a) = pure false) hq) (.inr hu) h
theorem EqAt.str_dict (b : Str) (u : Tok) {a : Addr} (db : IsDct s.heap a) (hu : A.units < cLine) : EqAt A s (.str b u) (.ref a) false := fun prog w E Q h => by
  unfold eqBool
  refine wpAny_holding ?_
  refine wpAny_ite_split (fun hab => absurd (eq_of_beq hab) nofun) (fun _ => ?_)
  exact wpAny_bind (RcAt.str_dict b u db hu prog w E _ (wpAny_truthy_bool h))
theorem RcAt.dict_list {l : Addr} {items : Array Value} (hl : s.heap.IsList l items) {a : Addr} (db : IsDct s.heap a) (hu : A.units < cLine) : RcAt A s (.ref a) (.ref l) false := fun prog w E Q h => by
  have da := db.ty
  obtain ⟨⟨cls, dd, dt, sl⟩, es, ep, ho, hc, hdt⟩ := id db
  simp only at hc hdt
  subst hc hdt
  obtain ⟨⟨cls2, dd2, data2, sl2⟩, ho2, hc2, n2, hd2⟩ := id hl
  simp only at hc2 hd2
  subst hc2 hd2
  have hne : a ≠ l := fun e => by subst e; rw [ho] at ho2; have z := congrArg (Option.map Obj.cls) ho2; simp at z
  exact rc_eq_decline_or (k := false) ⟨_, ho, rfl⟩ ⟨_, ho2, rfl⟩ (by decide) F.sub_list_dict F.slot_dict_eq F.slot_list_eq_refl
    (fun _ hq => dict_declines da ⟨_, ho2, rfl⟩ F.sub_list_dict hq)
    (fun _ hq => call_meets F.slot_list_eq_refl ⟨_, ho2, rfl⟩ F.entry_list_eq (F.args_list_eq_2 _ _) (list_eq_declines_dict l items n2 dd2 sl2 a es ep dd sl) ⟨ho2, ho, hq⟩)
    (fun _ hq => wpAny_isSame_ref_other hne ho ho2 (by simp) hq) (.inr hu) h
theorem ne_dict_list {l : Addr} {items : Array Value} (hl : s.heap.IsList l items) {a : Addr} (db : IsDct s.heap a) : a ≠ l := by
  obtain ⟨o, es, ep, ho, hc, _⟩ := db
  obtain ⟨o2, ho2, hc2, _⟩ := hl
  intro e; subst e; rw [ho] at ho2; cases ho2; rw [hc] at hc2; simp at hc2
theorem EqAt.dict_list {l : Addr} {items : Array Value} (hl : s.heap.IsList l items) {a : Addr} (db : IsDct s.heap a) (hu : A.units < cLine) : EqAt A s (.ref a) (.ref l) false := .of_refs (ne_dict_list hl db) (RcAt.dict_list hl db hu)
theorem RcAt.list_dict {l : Addr} {items : Array Value} (hl : s.heap.IsList l items) {a : Addr} (db : IsDct s.heap a) (hu : A.units < cLine) : RcAt A s (.ref l) (.ref a) false := fun prog w E Q h => by
  have da := db.ty
  obtain ⟨⟨cls, dd, dt, sl⟩, es, ep, ho, hc, hdt⟩ := id db
  simp only at hc hdt
  subst hc hdt
  obtain ⟨⟨cls2, dd2, data2, sl2⟩, ho2, hc2, n2, hd2⟩ := id hl
  simp only at hc2 hd2
  subst hc2 hd2
  have hne : a ≠ l := fun e => by subst e; rw [ho] at ho2; have z := congrArg (Option.map Obj.cls) ho2; simp at z
  exact rc_eq_decline_or (k := false) ⟨_, ho2, rfl⟩ ⟨_, ho, rfl⟩ (by decide) F.sub_dict_list F.slot_list_eq F.slot_dict_eq_refl
    (fun _ hq => call_meets F.slot_list_eq ⟨_, ho2, rfl⟩ F.entry_list_eq (F.args_list_eq_2 _ _) (list_eq_declines_dict l items n2 dd2 sl2 a es ep dd sl) ⟨ho2, ho, hq⟩)
    (fun _ hq => dict_declines da ⟨_, ho2, rfl⟩ F.sub_list_dict hq)
    (fun _ hq => wpAny_isSame_ref_other' (Ne.symm hne) ho2 ho (by simp) hq) (.inr hu) h
theorem EqAt.list_dict {l : Addr} {items : Array Value} (hl : s.heap.IsList l items) {a : Addr} (db : IsDct s.heap a) (hu : A.units < cLine) : EqAt A s (.ref l) (.ref a) false := .of_refs (Ne.symm (ne_dict_list hl db)) (RcAt.list_dict hl db hu)
theorem RcAt.dict_tuple {l : Addr} {items : Array Value} (hl : s.heap.IsTuple l items) {a : Addr} (db : IsDct s.heap a) (hu : A.units < cLine) : RcAt A s (.ref a) (.ref l) false := fun prog w E Q h => by
  have da := db.ty
  obtain ⟨⟨cls, dd, dt, sl⟩, es, ep, ho, hc, hdt⟩ := id db
  simp only at hc hdt
  subst hc hdt
  obtain ⟨⟨cls2, dd2, data2, sl2⟩, ho2, hc2, n2, hd2⟩ := id hl
  simp only at hc2 hd2
  subst hc2 hd2
  have hne : a ≠ l := fun e => by subst e; rw [ho] at ho2; have z := congrArg (Option.map Obj.cls) ho2; simp at z
  exact rc_eq_decline_or (k := false) ⟨_, ho, rfl⟩ ⟨_, ho2, rfl⟩ (by decide) F.sub_tuple_dict F.slot_dict_eq F.slot_tuple_eq_refl
    (fun _ hq => dict_declines da ⟨_, ho2, rfl⟩ F.sub_tuple_dict hq)
    (fun _ hq => call_meets F.slot_tuple_eq_refl ⟨_, ho2, rfl⟩ F.entry_tuple_eq (F.args_tuple_eq_2 _ _) (tuple_eq_declines_dict l items n2 dd2 sl2 a es ep dd sl) ⟨ho2, ho, hq⟩)
    (fun _ hq => wpAny_isSame_ref_other hne ho ho2 (by simp) hq) (.inr hu) h
theorem ne_dict_tuple {l : Addr} {items : Array Value} (hl : s.heap.IsTuple l items) {a : Addr} (db : IsDct s.heap a) : a ≠ l := by
  obtain ⟨o, es, ep, ho, hc, _⟩ := db
  obtain ⟨o2, ho2, hc2, _⟩ := hl
  intro e; subst e; rw [ho] at ho2; cases ho2; rw [hc] at hc2; simp at hc2
theorem EqAt.dict_tuple {l : Addr} {items : Array Value} (hl : s.heap.IsTuple l items) {a : Addr} (db : IsDct s.heap a) (hu : A.units < cLine) : EqAt A s (.ref a) (.ref l) false := .of_refs (ne_dict_tuple hl db) (RcAt.dict_tuple hl db hu)
theorem RcAt.tuple_dict {l : Addr} {items : Array Value} (hl : s.heap.IsTuple l items) {a : Addr} (db : IsDct s.heap a) (hu : A.units < cLine) : RcAt A s (.ref l) (.ref a) false := fun prog w E Q h => by
  have da := db.ty
  obtain ⟨⟨cls, dd, dt, sl⟩, es, ep, ho, hc, hdt⟩ := id db
  simp only at hc hdt
  subst hc hdt
  obtain ⟨⟨cls2, dd2, data2, sl2⟩, ho2, hc2, n2, hd2⟩ := id hl
  simp only at hc2 hd2
  subst hc2 hd2
  have hne : a ≠ l := fun e => by subst e; rw [ho] at ho2; have z := congrArg (Option.map Obj.cls) ho2; simp at z
  exact rc_eq_decline_or (k := false) ⟨_, ho2, rfl⟩ ⟨_, ho, rfl⟩ (by decide) F.sub_dict_tuple F.slot_tuple_eq F.slot_dict_eq_refl
    (fun _ hq => call_meets F.slot_tuple_eq ⟨_, ho2, rfl⟩ F.entry_tuple_eq (F.args_tuple_eq_2 _ _) (tuple_eq_declines_dict l items n2 dd2 sl2 a es ep dd sl) ⟨ho2, ho, hq⟩)
    (fun _ hq => dict_declines da ⟨_, ho2, rfl⟩ F.sub_tuple_dict hq)
    (fun _ hq => wpAny_isSame_ref_other' (Ne.symm hne) ho2 ho (by simp) hq) (.inr hu) h
theorem EqAt.tuple_dict {l : Addr} {items : Array Value} (hl : s.heap.IsTuple l items) {a : Addr} (db : IsDct s.heap a) (hu : A.units < cLine) : EqAt A s (.ref l) (.ref a) false := .of_refs (Ne.symm (ne_dict_tuple hl db)) (RcAt.tuple_dict hl db hu)
end
end DV
/-! == of any data, looking through cells; values of unlike kinds and lengths. -/
namespace DV
open PySem PySem.Spec PyProof.Rows L2
open PySem.W (EqTree)
inductive Frs (R : V → D → Prop) : List V → List D → Prop
  | nil : Frs R [] []
  | cons {v : V} {d : D} {vs : List V} {ds : List D} : R v d → Frs R vs ds → Frs R (v :: vs) (d :: ds)
section
variable {R : V → D → Prop}
theorem Frs.length : ∀ {vs : List V} {ds : List D}, Frs R vs ds → vs.length = ds.length
  | _, _, .nil => rfl
  | _, _, .cons _ t => by simp [Frs.length t]
theorem Frs.get : ∀ {vs : List V} {ds : List D} {i : Nat} {d : D}, Frs R vs ds → ds[i]? = some d → ∃ v, vs[i]? = some v ∧ R v d
  | _, _, _, _, .nil, e => by simp at e
  | _, _, 0, _, .cons h _, e => by simp at e; subst e; exact ⟨_, rfl, h⟩
  | _, _, i + 1, d, .cons _ t, e => by
    obtain ⟨v, h1, h2⟩ := Frs.get t (i := i) (d := d) (by simpa using e)
    exact ⟨v, by simpa using h1, h2⟩
theorem Frs.mono {R' : V → D → Prop} (f : ∀ v d, R v d → R' v d) : ∀ {vs : List V} {ds : List D}, Frs R vs ds → Frs R' vs ds
  | _, _, .nil => .nil
  | _, _, .cons h t => .cons (f _ _ h) (Frs.mono f t)
theorem Frs.fun_ (f : ∀ v d e, R v d → R v e → d = e) : ∀ {vs : List V} {ds es : List D}, Frs R vs ds → Frs R vs es → ds = es
  | _, _, _, .nil, .nil => rfl
  | _, _, _, .cons h t, .cons h' t' => by rw [f _ _ _ h h', Frs.fun_ f t t']
end
def Fr (K : PySem.W.Frag) (H : Hp) : Nat → V → D → Prop
  | 0, v, d => match d with
    | .non => v = .non
    | .bl b => v = .bl b
    | .int i => v = .int i
    | .str z => v = .str z
    | _ => False
  | k + 1, v, d => match d with
    | .non => v = .non
    | .bl b => v = .bl b
    | .int i => v = .int i
    | .str z => v = .str z
    | .lst ds => ∃ a vs, v = .ref a ∧ H a = some (.lst vs) ∧ Frs (Fr K H k) vs ds
    | .tup ds => ∃ a vs, v = .ref a ∧ H a = some (.tup vs) ∧ Frs (Fr K H k) vs ds
    | .dct kvs => ∃ a us, v = .ref a ∧ Rd H a (.dK us) ∧ kvs.map (·.1) = us.map (·.1) ∧ Frs (Fr K H k) (us.map (·.2)) (kvs.map (·.2))
    | _ => False
def frz (μ : Mu) : Nat → D → D
  | 0, d => d
  | k + 1, d => match lk μ d with
    | .lst ds => .lst (ds.map (frz μ k))
    | .tup ds => .tup (ds.map (frz μ k))
    | .dct kvs => .dct (kvs.map fun p => (p.1, frz μ k p.2))
    | e => e
def goodF : Nat → D → Bool
  | _, .non => true
  | _, .bl _ => true
  | _, .int _ => true
  | _, .str _ => true
  | k + 1, .lst ds => ds.all (goodF k)
  | k + 1, .tup ds => ds.all (goodF k)
  | k + 1, .dct kvs => kvs.all fun p => goodF k p.2
  | _, _ => false
theorem rd_fun {H : Hp} {a : Addr} {us us' : List (Key × V)} (h : Rd H a (.dK us)) (h' : Rd H a (.dK us')) : us = us' := rd_inj h h'
theorem Fr.fun_ {K : PySem.W.Frag} {H : Hp} : ∀ (k : Nat) (v : V) (d e : D), Fr K H k v d → Fr K H k v e → d = e := by
  intro k
  induction k with
  | zero =>
    intro v d e h1 h2
    unfold Fr at h1 h2
    cases d <;> cases e <;> simp only at h1 h2 <;> first | exact h1.elim | exact h2.elim | (subst h1; cases h2; done) | (subst h1; cases h2; rfl)
  | succ k ih =>
    intro v d e h1 h2
    unfold Fr at h1 h2
    have inj : ∀ {a a' : Addr} {o o' : HO}, V.ref a = V.ref a' → H a = some o → H a' = some o' → o = o' := fun e h h' => by cases e; rw [h] at h'; cases h'; rfl
    have nrd : ∀ {a a' : Addr} {o : HO} {us : List (Key × V)}, V.ref a = V.ref a' → H a = some o → Rd H a' (.dK us) → (∀ x y, o ≠ .frz x y) → o = .dK us := fun e h h' hn => by
      cases e
      rcases h' with h' | ⟨o', h'⟩
      · rw [h] at h'; cases h'; rfl
      · rw [h] at h'; cases h'; exact absurd rfl (hn _ _)
    cases d <;> cases e <;> simp only at h1 h2 <;> first
      | exact h1.elim
      | exact h2.elim
      | (subst h1; cases h2; done)
      | (subst h1; cases h2; rfl)
      | (subst h1; obtain ⟨a, vs, e0, e1, t1⟩ := h2; cases e0; done)
      | (subst h1; obtain ⟨a, us, e0, e1, k1, t1⟩ := h2; cases e0; done)
      | (subst h2; obtain ⟨a, vs, e0, e1, t1⟩ := h1; cases e0; done)
      | (subst h2; obtain ⟨a, us, e0, e1, k1, t1⟩ := h1; cases e0; done)
      | (obtain ⟨a, vs, rfl, e1, t1⟩ := h1; obtain ⟨a', vs', e0, e2, t2⟩ := h2; have := inj e0 e1 e2; cases this; rw [Frs.fun_ ih t1 t2]; done)
      | (obtain ⟨a, vs, rfl, e1, t1⟩ := h1; obtain ⟨a', vs', e0, e2, t2⟩ := h2; have := inj e0 e1 e2; cases this; done)
      | (obtain ⟨a, vs, rfl, e1, t1⟩ := h1; obtain ⟨a', us, e0, e2, k2, t2⟩ := h2; have := nrd e0 e1 e2 (fun _ _ z => by cases z); cases this; done)
      | (obtain ⟨a, us, rfl, e2, k2, t2⟩ := h1; obtain ⟨a', vs, e0, e1, t1⟩ := h2; have := nrd e0.symm e1 e2 (fun _ _ z => by cases z); cases this; done)
      | (obtain ⟨a, us, rfl, e1, k1, t1⟩ := h1
         obtain ⟨a', us', e0, e2, k2, t2⟩ := h2
         cases e0
         have := rd_fun e1 e2
         subst this
         have t := Frs.fun_ ih t1 t2
         rw [zip_back k1, zip_back k2, t])
theorem dpall_of {K : PySem.W.Frag} {H : Hp} {R : V → D → Prop} {g : D → PyData} {p : D → Bool} (f : ∀ v d, R v d → p d = true → Dp K H v (g d)) : ∀ {vs : List V} {ds : List D}, Frs R vs ds → ds.all p = true → DpAll K H vs (ds.map g)
  | _, _, .nil, _ => .nil
  | _, _, .cons h t, ha => by
    simp only [List.all_cons, Bool.and_eq_true] at ha
    exact .cons (f _ _ h ha.1) (dpall_of f t ha.2)
theorem Fr.dp {K : PySem.W.Frag} {H : Hp} : ∀ (k : Nat) (v : V) (d : D), Fr K H k v d → D.okn k d = true → Dp K H v (D.py k d) := by
  intro k
  induction k with
  | zero =>
    intro v d h ok
    unfold Fr at h
    cases d <;> simp only at h <;> first | exact h.elim | (subst h; constructor)
  | succ k ih =>
    intro v d h ok
    unfold Fr at h
    cases d <;> simp only at h <;> first
      | exact h.elim
      | (subst h; constructor)
      | (simp [D.okn] at ok; done)
      | (obtain ⟨a, vs, rfl, e, t⟩ := h; exact .lst (SqL.of e) (dpall_of ih t ok))
      | (obtain ⟨a, vs, rfl, e, t⟩ := h; exact .tup (SqT.of e) (dpall_of ih t ok))
theorem fr_frz {K : PySem.W.Frag} {n : Now} {μ : Mu} (s : SR0 K n μ) : ∀ (k : Nat) (v : V) (d : D), Rep K n.Hb n.al v d → goodF k (frz μ k d) = true → Fr K n.H k v (frz μ k d) := by
  intro k
  induction k with
  | zero =>
    intro v d r h
    unfold frz at h ⊢
    unfold Fr
    cases r <;> simp [goodF] at h <;> rfl
  | succ k ih =>
    intro v d r h
    have all : ∀ {vs : List V} {ds : List D}, Reps K n.Hb n.al vs ds → (ds.map (frz μ k)).all (goodF k) = true → Frs (Fr K n.H k) vs (ds.map (frz μ k)) := by
      intro vs
      induction vs with
      | nil => intro ds t _; cases t; exact .nil
      | cons v vs ihv =>
        intro ds t ha
        cases t with
        | cons t0 t1 =>
          simp only [List.map_cons, List.all_cons, Bool.and_eq_true] at ha
          exact .cons (ih _ _ t0 ha.1) (ihv t1 ha.2)
    cases e : lk μ d with
    | lst ds =>
      obtain ⟨a, vs, rfl, h1, h2⟩ := see_lst s r e
      have ef : frz μ (k + 1) d = .lst (ds.map (frz μ k)) := by rw [show frz μ (k + 1) d = (match lk μ d with | .lst ds => D.lst (ds.map (frz μ k)) | .tup ds => .tup (ds.map (frz μ k)) | .dct kvs => .dct (kvs.map fun p => (p.1, frz μ k p.2)) | e => e) from rfl, e]
      rw [ef] at h ⊢
      exact ⟨a, vs, rfl, h1, all h2 h⟩
    | tup ds =>
      obtain ⟨a, vs, rfl, h1, _, h2⟩ := see_tup s r e
      have ef : frz μ (k + 1) d = .tup (ds.map (frz μ k)) := by rw [show frz μ (k + 1) d = (match lk μ d with | .lst ds => D.lst (ds.map (frz μ k)) | .tup ds => .tup (ds.map (frz μ k)) | .dct kvs => .dct (kvs.map fun p => (p.1, frz μ k p.2)) | e => e) from rfl, e]
      rw [ef] at h ⊢
      exact ⟨a, vs, rfl, h1, all h2 h⟩
    | dct kvs =>
      obtain ⟨a, us, rfl, h1, h2, h3⟩ := see_dct s r e
      have ef : frz μ (k + 1) d = .dct (kvs.map fun p => (p.1, frz μ k p.2)) := by rw [show frz μ (k + 1) d = (match lk μ d with | .lst ds => D.lst (ds.map (frz μ k)) | .tup ds => .tup (ds.map (frz μ k)) | .dct kvs => .dct (kvs.map fun p => (p.1, frz μ k p.2)) | e => e) from rfl, e]
      rw [ef] at h ⊢
      refine ⟨a, us, rfl, h1, by rw [List.map_map, ← h2]; rfl, ?_⟩
      have em : (kvs.map fun p => (p.1, frz μ k p.2)).map (·.2) = (kvs.map (·.2)).map (frz μ k) := by rw [List.map_map, List.map_map]; rfl
      rw [em]
      refine all h3 ?_
      rw [← em, List.all_map]
      exact h
    | _ =>
      have ef : frz μ (k + 1) d = lk μ d := by rw [show frz μ (k + 1) d = (match lk μ d with | .lst ds => D.lst (ds.map (frz μ k)) | .tup ds => .tup (ds.map (frz μ k)) | .dct kvs => .dct (kvs.map fun p => (p.1, frz μ k p.2)) | e => e) from rfl, e]
      rw [ef, e] at h ⊢
      have nr : ∀ l, d ≠ .ref l := by
        intro l z
        subst z
        first
          | (simp [goodF] at h; done)
          | (rcases lk_ref e (by simp) with ⟨_, _, q⟩ | ⟨_, _, q⟩ | ⟨_, _, _, q⟩ <;> cases q)
      have ed : lk μ d = d := by
        cases d with
        | ref l => exact absurd rfl (nr l)
        | _ => rfl
      rw [ed] at e
      subst e
      first
        | (simp [goodF] at h; done)
        | (cases r; rfl)
def kdn : D → Nat
  | .non => 0
  | .bl _ => 1
  | .int _ => 1
  | .str _ => 2
  | .lst _ => 3
  | .tup _ => 4
  | .dct _ => 5
  | _ => 9
def deqW : Nat → D → D → Option Bool
  | 0, x, y => bif D.okn 0 x && D.okn 0 y then some (PyData.eqv (D.py 0 x) (D.py 0 y)) else none
  | k + 1, x, y => bif D.okn (k + 1) x && D.okn (k + 1) y then some (PyData.eqv (D.py (k + 1) x) (D.py (k + 1) y)) else
    if kdn x ≠ kdn y ∧ kdn x < 9 ∧ kdn y < 9 then some false else (match x, y with
    | .lst xs, .lst ys => if xs.length = ys.length then allT (deqW k) xs ys else some false
    | .tup xs, .tup ys => (allT (deqW k) (xs.take (min xs.length ys.length)) (ys.take (min xs.length ys.length))).map fun r => r && decide (xs.length = ys.length)
    | .dct a, .dct b => if (a.map (·.1)).Nodup ∧ (b.map (·.1)).Nodup then (dctT (deqW k) b a).map fun r => decide (a.length = b.length) && r else none
    | _, _ => none)
theorem allT_same {f : D → D → Option Bool} (hf : ∀ d b, f d d = some b → b = true) : ∀ (xs : List D) (b : Bool), allT f xs xs = some b → b = true
  | [], b, h => by cases h; rfl
  | x :: xs, b, h => by
    unfold allT at h
    split at h
    · rename_i c d e1 e2
      cases h
      rw [hf _ _ e1, allT_same hf xs _ e2]; rfl
    · cases h
theorem dctT_same {f : D → D → Option Bool} (hf : ∀ d b, f d d = some b → b = true) {a : List (Key × D)} : ∀ (l : List (Key × D)) (r : Bool), (∀ p ∈ l, lookD a p.1 = some p.2) → dctT f a l = some r → r = true
  | [], r, _, h => by cases h; rfl
  | (k, v) :: l, r, hl, h => by
    have e0 := hl (k, v) (by simp)
    unfold dctT at h
    rw [e0] at h
    simp only at h
    split at h
    · rename_i x y e1 e2
      cases h
      rw [hf _ _ e1, dctT_same hf l _ (fun p hp => hl p (by simp [hp])) e2]; rfl
    · cases h
theorem lookD_nodup {p : Key × D} : ∀ {l : List (Key × D)}, (l.map (·.1)).Nodup → p ∈ l → lookD l p.1 = some p.2
  | [], _, h => by cases h
  | q :: l, nd, hm => by
    rw [List.map_cons, List.nodup_cons] at nd
    rcases List.mem_cons.mp hm with e | hm
    · subst e; simp [lookD]
    · have hne : ¬ q.1 = p.1 := fun z => nd.1 (z ▸ List.mem_map.mpr ⟨_, hm, rfl⟩)
      have := lookD_nodup nd.2 hm
      unfold lookD at this ⊢
      rw [List.find?_cons]
      simp only [hne, decide_false]
      exact this
theorem deqW_same : ∀ (k : Nat) (d : D) (b : Bool), deqW k d d = some b → b = true := by
  have okc : ∀ k (d : D) (b : Bool), D.okn k d = true → some (PyData.eqv (D.py k d) (D.py k d)) = some b → b = true := by
    intro k d b h1 h
    cases h
    exact SeqAt.eqv_refl _ (okn_lay k d h1).1
  intro k
  induction k with
  | zero =>
    intro d b h
    unfold deqW at h
    cases ho : D.okn 0 d with
    | false => rw [ho] at h; cases h
    | true => rw [ho] at h; exact okc 0 d b ho h
  | succ k ih =>
    intro d b h
    unfold deqW at h
    cases ho : D.okn (k + 1) d with
    | true => rw [ho] at h; exact okc (k + 1) d b ho h
    | false =>
      rw [ho] at h
      simp only [Bool.and_self, cond_false, ne_eq, not_true_eq_false, false_and, if_false] at h
      cases d <;> simp only at h <;> first
        | (cases h; done)
        | (rw [if_pos trivial] at h; exact allT_same ih _ _ h)
        | (simp only [if_true] at h; exact allT_same ih _ _ h)
        | (obtain ⟨r, hr, rfl⟩ := Option.map_eq_some_iff.mp h; rw [allT_same ih _ _ hr]; simp)
        | (split at h
           · rename_i nd
             obtain ⟨r, hr, rfl⟩ := Option.map_eq_some_iff.mp h
             rw [dctT_same ih _ _ (fun p hp => lookD_nodup nd.1 hp) hr]; simp
           · cases h)
end DV
namespace DV
open PySem PySem.Spec PyProof.Rows L2
open PySem.W (EqTree)
section
variable {X : Cx} {pins : List (Addr × Obj)} {σ : L2.St} {H : Hp} {s : Shared} {R : V → D → Prop}
theorem ftree_items {k m : Nat} {f : D → D → Option Bool} {vs vs' : List V} {us us' : List Value} {ds es : List D} {b : Bool} (t1 : Frs R vs ds) (t2 : Frs R vs' es) (w1 : Vals vs us) (w2 : Vals vs' us') (hm : m = min ds.length es.length) (h : allT f (ds.take m) (es.take m) = some b)
    (ih : ∀ {x y : V} {dx dy : D} {b : Bool} {u v : Value}, R x dx → R y dy → f dx dy = some b → RelV x u → RelV y v → EqTree X.prog X.w s k u v b) :
    us.toArray.size = ds.length ∧ us'.toArray.size = es.length ∧ (∀ j (h1 : j < us.toArray.size) (h2 : j < us'.toArray.size), EqTree X.prog X.w s k us.toArray[j] us'.toArray[j] ((f (ds.getD j .non) (es.getD j .non)).getD false)) ∧ b = (List.range m).all fun j => (f (ds.getD j .non) (es.getD j .non)).getD false := by
  obtain ⟨g1, g2, g3⟩ := allT_get h
  have l1 : us.length = ds.length := w1.length.symm.trans t1.length
  have l2 : us'.length = es.length := w2.length.symm.trans t2.length
  refine ⟨by simp [l1], by simp [l2], fun j h1 h2 => ?_, ?_⟩
  · have h1 : j < us.length := by simpa using h1
    have h2 : j < us'.length := by simpa using h2
    have j1 : j < ds.length := by omega
    have j2 : j < es.length := by omega
    obtain ⟨x, hx, rx⟩ := t1.get (List.getElem?_eq_getElem j1)
    obtain ⟨y, hy, ry⟩ := t2.get (List.getElem?_eq_getElem j2)
    obtain ⟨u, hu, ru⟩ := w1.get hx
    obtain ⟨v, hv, rv⟩ := w2.get hy
    have jm : j < m := by omega
    obtain ⟨c, hc⟩ := g2 j ds[j] es[j] (by rw [List.getElem?_take, if_pos jm]; exact List.getElem?_eq_getElem j1) (by rw [List.getElem?_take, if_pos jm]; exact List.getElem?_eq_getElem j2)
    have e1 : us.toArray[j] = u := by
      rw [List.getElem?_eq_getElem h1] at hu; cases hu; simp
    have e2 : us'.toArray[j] = v := by
      rw [List.getElem?_eq_getElem h2] at hv; cases hv; simp
    rw [e1, e2, List.getD_eq_getElem?_getD, List.getD_eq_getElem?_getD, List.getElem?_eq_getElem j1, List.getElem?_eq_getElem j2]
    simp only [Option.getD_some, hc]
    exact ih rx ry hc ru rv
  · rw [g3, List.length_take, hm, show min (min ds.length es.length) ds.length = min ds.length es.length from by omega]
    have e : ∀ j, j < min ds.length es.length → (f ((ds.take (min ds.length es.length)).getD j .non) ((es.take (min ds.length es.length)).getD j .non)).getD false = (f (ds.getD j .non) (es.getD j .non)).getD false := by
      intro j hj
      rw [List.getD_eq_getElem?_getD, List.getD_eq_getElem?_getD, List.getD_eq_getElem?_getD, List.getD_eq_getElem?_getD, List.getElem?_take, if_pos hj, List.getElem?_take, if_pos hj]
    rw [Bool.eq_iff_iff, List.all_eq_true, List.all_eq_true]
    constructor
    · intro a j hj; rw [← e j (List.mem_range.mp hj)]; exact a j hj
    · intro a j hj; rw [e j (List.mem_range.mp hj)]; exact a j hj
theorem fkv_get {us : List (Key × V)} {ds : List D} {vs : List (Key × Value)} {k : Key} (t : Frs R (us.map (·.2)) ds) (r : KV us vs) : (∀ v, PySem.valueAt vs k = some v → ∃ x d, RelV x v ∧ R x d ∧ lookD ((us.map (·.1)).zip ds) k = some d) ∧ (PySem.valueAt vs k).isSome = (lookD ((us.map (·.1)).zip ds) k).isSome := by
  induction us generalizing ds vs with
  | nil =>
    cases r
    exact ⟨fun v h => by simp [PySem.valueAt] at h, by simp [PySem.valueAt, lookD]⟩
  | cons p us ih =>
    cases r with
    | cons h r =>
      rename_i q vs
      rw [List.map_cons] at t
      cases t with
      | cons t0 t1 =>
        rename_i d ds
        obtain ⟨i1, i2⟩ := ih t1 r
        by_cases e : p.1 = k
        · have e' : q.1 = k := h.1 ▸ e
          refine ⟨fun v hv => ?_, ?_⟩
          · simp [PySem.valueAt, List.find?_cons, e'] at hv
            subst hv
            exact ⟨p.2, d, h.2, t0, by simp [lookD, List.find?_cons, e]⟩
          · simp [PySem.valueAt, lookD, List.find?_cons, e, e']
        · have e' : ¬ q.1 = k := fun z => e (h.1.trans z)
          refine ⟨fun v hv => ?_, ?_⟩
          · have hv' : PySem.valueAt vs k = some v := by simpa [PySem.valueAt, List.find?_cons, e'] using hv
            obtain ⟨x, d', a1, a2, a3⟩ := i1 v hv'
            exact ⟨x, d', a1, a2, by simpa [lookD, List.find?_cons, e] using a3⟩
          · simpa [PySem.valueAt, lookD, List.find?_cons, e, e'] using i2
theorem fkv_mem {us : List (Key × V)} {ds : List D} {vs : List (Key × Value)} (t : Frs R (us.map (·.2)) ds) (r : KV us vs) : vs.length = ds.length ∧ ∀ (j : Nat) q, vs[j]? = some q → ∃ x d, RelV x q.2 ∧ R x d ∧ ((us.map (·.1)).zip ds)[j]? = some (q.1, d) := by
  induction us generalizing ds vs with
  | nil => cases r; cases t; exact ⟨rfl, fun j q h => by simp at h⟩
  | cons p us ih =>
    cases r with
    | cons h r =>
      rename_i q vs
      rw [List.map_cons] at t
      cases t with
      | cons t0 t1 =>
        obtain ⟨i1, i2⟩ := ih t1 r
        refine ⟨by simp [i1], fun j q' hq => ?_⟩
        cases j with
        | zero => simp at hq; subst hq; exact ⟨_, _, h.2, t0, by simp [h.1]⟩
        | succ j =>
          obtain ⟨x, d, a1, a2, a3⟩ := i2 j q' (by simpa using hq)
          exact ⟨x, d, a1, a2, by simpa using a3⟩
/-- dicts -/
theorem ftree_dicts {k : Nat} {f : D → D → Option Bool} {us us' : List (Key × V)} {ds es : List D} {vs vs' : List (Key × Value)} {r : Bool} (t1 : Frs R (us.map (·.2)) ds) (t2 : Frs R (us'.map (·.2)) es) (w1 : KV us vs) (w2 : KV us' vs')
    (nd : ((((us.map (·.1)).zip ds)).map (·.1)).Nodup) (h : dctT (f) ((us'.map (·.1)).zip es) ((us.map (·.1)).zip ds) = some r)
    (ih : ∀ {x y : V} {dx dy : D} {b : Bool} {u v : Value}, R x dx → R y dy → f dx dy = some b → RelV x u → RelV y v → EqTree X.prog X.w s k u v b) :
    ∃ e : Key → Bool, (∀ q v y, (q, v) ∈ vs → PySem.valueAt vs' q = some y → EqTree X.prog X.w s k v y (e q)) ∧ (decide (((us.map (·.1)).zip ds).length = ((us'.map (·.1)).zip es).length) && r) = (vs.length == vs'.length && vs.all fun p => (PySem.valueAt vs' p.1).isSome && e p.1) := by
  obtain ⟨g1, g2⟩ := dctT_get h
  obtain ⟨m1, m2⟩ := fkv_mem t1 w1
  obtain ⟨m3, _⟩ := fkv_mem t2 w2
  have lu : us.length = ds.length := by have := t1.length; simpa using this
  have lu' : us'.length = es.length := by have := t2.length; simpa using this
  let L := (us.map (·.1)).zip ds
  have look : ∀ q d, (q, d) ∈ L → lookD L q = some d := by
    intro q d hm
    have : ∀ (l : List (Key × D)), (l.map (·.1)).Nodup → (q, d) ∈ l → lookD l q = some d := by
      intro l
      induction l with
      | nil => intro _ h; cases h
      | cons p l ihl =>
        intro nd hm
        rw [List.map_cons, List.nodup_cons] at nd
        rcases List.mem_cons.mp hm with e | hm
        · subst e; simp [lookD]
        · have hne : ¬ p.1 = q := fun z => nd.1 (z ▸ List.mem_map.mpr ⟨_, hm, rfl⟩)
          have := ihl nd.2 hm
          unfold lookD at this ⊢
          rw [List.find?_cons]
          simp only [hne, decide_false]
          exact this
    exact this L nd hm
  refine ⟨fun q => ((lookD L q).bind fun d => (lookD ((us'.map (·.1)).zip es) q).bind fun w => f d w).getD false, fun q v y hm hy => ?_, ?_⟩
  · obtain ⟨j, hj⟩ := List.getElem?_of_mem hm
    obtain ⟨x, d, rx, rd, hz⟩ := m2 j _ hj
    have hmem : (q, d) ∈ L := List.mem_of_getElem? hz
    obtain ⟨y', d', ry, rd', hl⟩ := (fkv_get (k := q) t2 w2).1 y hy
    obtain ⟨c, hc⟩ := g1 q d d' hmem hl
    simp only [look q d hmem, hl, Option.bind_some, hc, Option.getD_some]
    exact ih rd rd' hc rx ry
  · rw [g2]
    have e1 : decide (((us.map (·.1)).zip ds).length = ((us'.map (·.1)).zip es).length) = (vs.length == vs'.length) := by
      simp only [List.length_zip, List.length_map, lu, lu', Nat.min_self, m1, m3]
      by_cases z : ds.length = es.length <;> simp [z]
    rw [e1]
    congr 1
    have e2 : ∀ (j : Nat) q, vs[j]? = some q → ∃ p, L[j]? = some p ∧ p.1 = q.1 := fun j q hq => by
      obtain ⟨x, d, _, _, hz⟩ := m2 j q hq
      exact ⟨_, hz, rfl⟩
    have lL : L.length = vs.length := by simp [L, lu, m1]
    rw [Bool.eq_iff_iff, List.all_eq_true, List.all_eq_true]
    have one : ∀ p ∈ L, ((lookD ((us'.map (·.1)).zip es) p.1).isSome && (((lookD ((us'.map (·.1)).zip es) p.1).bind fun w => f p.2 w).getD false)) = ((PySem.valueAt vs' p.1).isSome && (((lookD L p.1).bind fun d => (lookD ((us'.map (·.1)).zip es) p.1).bind fun w => f d w).getD false)) := fun p hp => by
      rw [(fkv_get (k := p.1) t2 w2).2, look p.1 p.2 hp]; rfl
    constructor
    · intro a q hq
      obtain ⟨j, hj⟩ := List.getElem?_of_mem hq
      obtain ⟨p, hp, ep⟩ := e2 j q hj
      have hp' := List.mem_of_getElem? hp
      rw [← ep, ← one p hp']
      exact a p hp'
    · intro a p hp
      obtain ⟨j, hj⟩ := List.getElem?_of_mem hp
      have hjl : j < vs.length := by rw [← lL]; exact (List.getElem?_eq_some_iff.mp hj).1
      obtain ⟨p', hp2, ep⟩ := e2 j _ (List.getElem?_eq_getElem hjl)
      rw [hj] at hp2; cases hp2
      rw [one p hp, ep]
      exact a _ (List.getElem_mem hjl)
/-- what the heap says of a value of each kind -/
def KF (h : Heap) (u : Value) (d : D) : Prop := match d with
  | .non => u = .none
  | .bl b => u = .bool b
  | .int i => ∃ t, u = .int i t
  | .str z => ∃ t, u = .str z t
  | .lst _ => ∃ a its, u = .ref a ∧ h.IsList a its
  | .tup _ => ∃ a its, u = .ref a ∧ h.IsTuple a its
  | .dct _ => ∃ a, u = .ref a ∧ IsDct h a
  | _ => False
theorem dictOf_is {K : Type} [DecidableEq K] {prog : Program} {w : World} {knd : KeyKind prog w K} {h : Heap} {a : Addr} {kvs : List (K × Value)} (d : h.DictOf knd a kvs) : IsDct h a := by
  obtain ⟨o, es, ep, ho, he, hd, _⟩ := d
  exact ⟨o, es, ep, ho, he.1, hd⟩
theorem Fr.kf (I : Inv X pins σ H s) {k : Nat} {v : V} {d : D} {u : Value} (h : Fr X.K H k v d) (ru : RelV v u) : KF s.heap u d := by
  cases k with
  | zero =>
    unfold Fr at h
    cases d <;> simp only at h <;> first | exact h.elim | (subst h; first | exact ru | (cases ru; first | exact rfl | exact ⟨_, rfl⟩ | exact ⟨_, by assumption⟩))
  | succ k =>
    unfold Fr at h
    cases d <;> simp only at h <;> first
      | exact h.elim
      | (subst h; first | exact ru | (cases ru; first | exact rfl | exact ⟨_, rfl⟩ | exact ⟨_, by assumption⟩))
      | (obtain ⟨a, vs, rfl, e, t⟩ := h
         cases ru
         obtain ⟨its, w1, p1, _⟩ := I.list (.inl (.inl e))
         exact ⟨_, _, rfl, p1.isList⟩)
      | (obtain ⟨a, vs, rfl, e, t⟩ := h
         cases ru
         obtain ⟨its, w1, p1, _⟩ := I.tuple (.inl (.inl e))
         exact ⟨_, _, rfl, p1⟩)
      | (obtain ⟨a, us, rfl, e, _, t⟩ := h
         cases ru
         obtain ⟨_, y1, vs, kv1, d1⟩ := dk_rd I.hok e
         exact ⟨_, rfl, dictOf_is d1⟩)
theorem unlike_EqAt {x y : D} {u v : Value} (hx : KF s.heap u x) (hy : KF s.heap v y) (hk : kdn x ≠ kdn y) (A : Around) (hu : A.units < cLine) : SeqAt.EqAt A s u v false := by
  cases x <;> cases y <;> first | exact hx.elim | exact hy.elim | exact absurd rfl hk | skip
  · obtain rfl := hx
    obtain rfl := hy
    exact SeqAt.EqAt.none_bool _
  · obtain rfl := hx
    obtain ⟨t2, rfl⟩ := hy
    exact SeqAt.EqAt.none_int _ _
  · obtain rfl := hx
    obtain ⟨t2, rfl⟩ := hy
    exact SeqAt.EqAt.none_str _ _
  · obtain rfl := hx
    obtain ⟨l2, its2, rfl, q2⟩ := hy
    exact SeqAt.EqAt.none_list q2 hu
  · obtain rfl := hx
    obtain ⟨l2, its2, rfl, q2⟩ := hy
    exact SeqAt.EqAt.none_tuple q2 hu
  · obtain rfl := hx
    obtain ⟨l2, rfl, q2⟩ := hy
    exact DV.EqAt.none_dict q2 hu
  · obtain rfl := hx
    obtain rfl := hy
    exact SeqAt.EqAt.bool_none _
  · obtain rfl := hx
    obtain ⟨t2, rfl⟩ := hy
    exact SeqAt.EqAt.bool_str _ _ _
  · obtain rfl := hx
    obtain ⟨l2, its2, rfl, q2⟩ := hy
    exact SeqAt.EqAt.bool_list _ q2 hu
  · obtain rfl := hx
    obtain ⟨l2, its2, rfl, q2⟩ := hy
    exact SeqAt.EqAt.bool_tuple _ q2 hu
  · obtain rfl := hx
    obtain ⟨l2, rfl, q2⟩ := hy
    exact DV.EqAt.bool_dict _ q2 hu
  · obtain ⟨t1, rfl⟩ := hx
    obtain rfl := hy
    exact SeqAt.EqAt.int_none _ _
  · obtain ⟨t1, rfl⟩ := hx
    obtain ⟨t2, rfl⟩ := hy
    exact SeqAt.EqAt.int_str _ _ _ _
  · obtain ⟨t1, rfl⟩ := hx
    obtain ⟨l2, its2, rfl, q2⟩ := hy
    exact SeqAt.EqAt.int_list _ _ q2 hu
  · obtain ⟨t1, rfl⟩ := hx
    obtain ⟨l2, its2, rfl, q2⟩ := hy
    exact SeqAt.EqAt.int_tuple _ _ q2 hu
  · obtain ⟨t1, rfl⟩ := hx
    obtain ⟨l2, rfl, q2⟩ := hy
    exact DV.EqAt.int_dict _ _ q2 hu
  · obtain ⟨t1, rfl⟩ := hx
    obtain rfl := hy
    exact SeqAt.EqAt.str_none _ _
  · obtain ⟨t1, rfl⟩ := hx
    obtain rfl := hy
    exact SeqAt.EqAt.str_bool _ _ _
  · obtain ⟨t1, rfl⟩ := hx
    obtain ⟨t2, rfl⟩ := hy
    exact SeqAt.EqAt.str_int _ _ _ _
  · obtain ⟨t1, rfl⟩ := hx
    obtain ⟨l2, its2, rfl, q2⟩ := hy
    exact SeqAt.EqAt.str_list _ _ q2 hu
  · obtain ⟨t1, rfl⟩ := hx
    obtain ⟨l2, its2, rfl, q2⟩ := hy
    exact SeqAt.EqAt.str_tuple _ _ q2 hu
  · obtain ⟨t1, rfl⟩ := hx
    obtain ⟨l2, rfl, q2⟩ := hy
    exact DV.EqAt.str_dict _ _ q2 hu
  · obtain ⟨l1, its1, rfl, q1⟩ := hx
    obtain rfl := hy
    exact SeqAt.EqAt.list_none q1 hu
  · obtain ⟨l1, its1, rfl, q1⟩ := hx
    obtain rfl := hy
    exact SeqAt.EqAt.list_bool _ q1 hu
  · obtain ⟨l1, its1, rfl, q1⟩ := hx
    obtain ⟨t2, rfl⟩ := hy
    exact SeqAt.EqAt.list_int _ _ q1 hu
  · obtain ⟨l1, its1, rfl, q1⟩ := hx
    obtain ⟨t2, rfl⟩ := hy
    exact SeqAt.EqAt.list_str _ _ q1 hu
  · obtain ⟨l1, its1, rfl, q1⟩ := hx
    obtain ⟨l2, its2, rfl, q2⟩ := hy
    exact SeqAt.EqAt.list_tuple q1 q2 hu
  · obtain ⟨l1, its1, rfl, q1⟩ := hx
    obtain ⟨l2, rfl, q2⟩ := hy
    exact DV.EqAt.list_dict q1 q2 hu
  · obtain ⟨l1, its1, rfl, q1⟩ := hx
    obtain rfl := hy
    exact SeqAt.EqAt.tuple_none q1 hu
  · obtain ⟨l1, its1, rfl, q1⟩ := hx
    obtain rfl := hy
    exact SeqAt.EqAt.tuple_bool _ q1 hu
  · obtain ⟨l1, its1, rfl, q1⟩ := hx
    obtain ⟨t2, rfl⟩ := hy
    exact SeqAt.EqAt.tuple_int _ _ q1 hu
  · obtain ⟨l1, its1, rfl, q1⟩ := hx
    obtain ⟨t2, rfl⟩ := hy
    exact SeqAt.EqAt.tuple_str _ _ q1 hu
  · obtain ⟨l1, its1, rfl, q1⟩ := hx
    obtain ⟨l2, its2, rfl, q2⟩ := hy
    exact SeqAt.EqAt.tuple_list q1 q2 hu
  · obtain ⟨l1, its1, rfl, q1⟩ := hx
    obtain ⟨l2, rfl, q2⟩ := hy
    exact DV.EqAt.tuple_dict q1 q2 hu
  · obtain ⟨l1, rfl, q1⟩ := hx
    obtain rfl := hy
    exact DV.EqAt.dict_none q1 hu
  · obtain ⟨l1, rfl, q1⟩ := hx
    obtain rfl := hy
    exact DV.EqAt.dict_bool _ q1 hu
  · obtain ⟨l1, rfl, q1⟩ := hx
    obtain ⟨t2, rfl⟩ := hy
    exact DV.EqAt.dict_int _ _ q1 hu
  · obtain ⟨l1, rfl, q1⟩ := hx
    obtain ⟨t2, rfl⟩ := hy
    exact DV.EqAt.dict_str _ _ q1 hu
  · obtain ⟨l1, rfl, q1⟩ := hx
    obtain ⟨l2, its2, rfl, q2⟩ := hy
    exact DV.EqAt.dict_list q2 q1 hu
  · obtain ⟨l1, rfl, q1⟩ := hx
    obtain ⟨l2, its2, rfl, q2⟩ := hy
    exact DV.EqAt.dict_tuple q2 q1 hu
end
section
variable {X : Cx} {pins : List (Addr × Obj)} {σ : L2.St} {H : Hp} {s : Shared}
theorem deqW_tree (I : Inv X pins σ H s) : ∀ (k : Nat) {x y : V} {dx dy : D} {b : Bool} {u v : Value}, Fr X.K H k x dx → Fr X.K H k y dy → deqW k dx dy = some b → RelV x u → RelV y v → EqTree X.prog X.w s k u v b := by
  have okc : ∀ k {x y : V} {dx dy : D} {b : Bool} {u v : Value}, Fr X.K H k x dx → Fr X.K H k y dy → D.okn k dx = true → D.okn k dy = true → some (PyData.eqv (D.py k dx) (D.py k dy)) = some b → RelV x u → RelV y v → EqTree X.prog X.w s k u v b := by
    intro k x y dx dy b u v r1 r2 h1 h2 h ru rv
    cases h
    exact tree_data I (Fr.dp k _ _ r1 h1) (Fr.dp k _ _ r2 h2) (okn_lay k dx h1).1 (okn_lay k dy h2).1 (okn_lay k dx h1).2 ru rv
  intro k
  induction k with
  | zero =>
    intro x y dx dy b u v r1 r2 h ru rv
    unfold deqW at h
    cases ho : (D.okn 0 dx && D.okn 0 dy) with
    | false => rw [ho] at h; cases h
    | true =>
      rw [ho] at h
      rw [Bool.and_eq_true] at ho
      exact okc 0 r1 r2 ho.1 ho.2 h ru rv
  | succ k ih =>
    intro x y dx dy b u v r1 r2 h ru rv
    have h0 := h
    have same : x = y → b = true := fun e => by
      subst e
      have := Fr.fun_ (k + 1) _ _ _ r1 r2
      subst this
      exact deqW_same (k + 1) _ _ h0
    unfold deqW at h
    cases ho : (D.okn (k + 1) dx && D.okn (k + 1) dy) with
    | true =>
      rw [ho] at h
      rw [Bool.and_eq_true] at ho
      exact okc (k + 1) r1 r2 ho.1 ho.2 h ru rv
    | false =>
      rw [ho] at h
      simp only [cond_false] at h
      by_cases hk : kdn dx ≠ kdn dy ∧ kdn dx < 9 ∧ kdn dy < 9
      · rw [if_pos hk] at h
        cases h
        exact .leaf fun A hA => unlike_EqAt (r1.kf I ru) (r2.kf I rv) hk.1 A (by omega)
      · rw [if_neg hk] at h
        split at h
        · rename_i xs ys
          obtain ⟨a, vs, rfl, e1, t1⟩ := r1
          obtain ⟨a', vs', rfl, e2, t2⟩ := r2
          cases ru; cases rv
          by_cases hne : a = a'
          · rw [same (by rw [hne]), hne]; exact .same
          · obtain ⟨its, w1, p1, _⟩ := I.list (.inl (.inl e1))
            obtain ⟨its', w2, p2, _⟩ := I.list (.inl (.inl e2))
            split at h
            · rename_i hl
              have h' : allT (deqW k) (xs.take (min xs.length ys.length)) (ys.take (min xs.length ys.length)) = some b := by
                rw [← hl, Nat.min_self, List.take_length, hl, List.take_length]; exact h
              obtain ⟨z1, z2, z3, z4⟩ := ftree_items t1 t2 w1 w2 rfl h' ih
              have q := EqTree.lists (prog := X.prog) (w := X.w) (s := s) hne p1.isList p2.isList (by rw [z1, z2, hl]) z3
              rw [z4, ← hl, Nat.min_self, ← z1]
              exact q
            · rename_i hl
              cases h
              refine .listsLen hne p1.isList p2.isList ?_
              have l1 : its.length = xs.length := w1.length.symm.trans t1.length
              have l2 : its'.length = ys.length := w2.length.symm.trans t2.length
              simp [l1, l2, hl]
        · rename_i xs ys
          obtain ⟨a, vs, rfl, e1, t1⟩ := r1
          obtain ⟨a', vs', rfl, e2, t2⟩ := r2
          cases ru; cases rv
          by_cases hne : a = a'
          · rw [same (by rw [hne]), hne]; exact .same
          · obtain ⟨its, w1, p1, _⟩ := I.tuple (.inl (.inl e1))
            obtain ⟨its', w2, p2, _⟩ := I.tuple (.inl (.inl e2))
            obtain ⟨r, hr, rfl⟩ := Option.map_eq_some_iff.mp h
            obtain ⟨z1, z2, z3, z4⟩ := ftree_items t1 t2 w1 w2 rfl hr ih
            have q := EqTree.tuples (prog := X.prog) (w := X.w) (s := s) hne p1 p2 z3
            rw [z1, z2] at q
            rw [z4]
            have e : decide (xs.length = ys.length) = (xs.length == ys.length) := by by_cases z : xs.length = ys.length <;> simp [z]
            rw [e]
            exact q
        · rename_i a0 b0
          split at h
          · rename_i nd
            obtain ⟨r, hr, hb⟩ := Option.map_eq_some_iff.mp h
            obtain ⟨a, us, rfl, e1, k1, t1⟩ := r1
            obtain ⟨a', us', rfl, e2, k2, t2⟩ := r2
            cases ru; cases rv
            by_cases hne : a = a'
            · rw [same (by rw [hne]), hne]; exact .same
            · obtain ⟨_, y1, vs, kv1, d1⟩ := dk_rd I.hok e1
              obtain ⟨_, y2, vs', kv2, d2⟩ := dk_rd I.hok e2
              have nd1 := nd.1
              rw [zip_back k1] at nd1 hr
              rw [zip_back k2] at hr
              obtain ⟨e, f1, f2⟩ := ftree_dicts (s := s) t1 t2 kv1 kv2 nd1 hr ih
              rw [← zip_back k1, ← zip_back k2] at f2
              rw [← hb, f2]
              exact .dicts (knd := mixKind X.prog X.w) hne y1 y2 d1 d2 f1
          · cases h
        · cases h
variable {W : WX} {a b : Expr} {pos : Pos} {fa fb : DTE}
end
end DV
/-! ==, the left side a plain value, the right side an instance with an own __eq__: the left declines, the own one is asked. -/
namespace PySem.W
open PySem PySem.Calls PyProof.Rows
end PySem.W
/-! x not in [..], where no item is equal to x and the comparisons may change the heap. -/
/-! == of a plain value and an instance: the plain side declines. -/
namespace DV
open PySem PySem.Spec PyProof.Rows PySem.Calls PyProof.V Builtin SeqAt
end DV
namespace DV
open PySem PySem.Spec PyProof.Rows PySem.Calls PyProof.V Builtin SeqAt L2
end DV
/-! x not in [plain values], x an instance with an own __eq__ that says no to each. -/
namespace DV
open PySem PySem.Spec PyProof.Rows L2
end DV
/-! x in [plain values], x an instance with an own __eq__ that says no to each. -/
namespace DV
open PySem PySem.Spec PyProof.Rows L2
end DV
namespace DV
open PySem PySem.Spec PyProof.Rows L2
/-! wishes compared -/
def eqLk (ks : List Str) (u : Str → Int) (ks' : List Str) (u' : Str → Int) : Bool := decide (ks.length = ks'.length) && ks.all fun x => decide (x ∈ ks') && decide (u x = u' x)
theorem lk_nodup {ks : List Str} {u : Str → Int} (h : ks.Nodup) : ((lkL ks u).map (·.1)).Nodup := by
  unfold lkL
  rw [List.map_map]
  exact List.Pairwise.map _ (fun a b hab e => hab (by injection e)) h
theorem val_lk (ks : List Str) (u : Str → Int) (x : Str) : valD (lkL ks u) (.inr x) = if x ∈ ks then some (.int (u x)) else none := by
  by_cases h : x ∈ ks
  · rw [if_pos h, lk_val h]
  · rw [if_neg h]
    unfold valD
    rw [Option.map_eq_none_iff, List.find?_eq_none]
    intro kv hkv
    unfold lkL at hkv
    obtain ⟨y, hy, rfl⟩ := List.mem_map.mp hkv
    simp only [decide_eq_true_eq]
    intro e
    injection e with e
    exact h (e ▸ hy)
theorem deq_ints (a b : Int) : deqT 11 (.int a) (.int b) = some (decide (a = b)) := by
  unfold deqT
  rw [show (D.okn (10 + 1) (.int a) && D.okn (10 + 1) (.int b)) = true from rfl, cond_true]
  refine congrArg some ?_
  show PyData.eqv (.int a) (.int b) = _
  by_cases h : a = b
  · subst h; simp [PyData.eqv]
  · simp [PyData.eqv, h]
theorem dct_lk {ks' : List Str} {u u' : Str → Int} : ∀ ks : List Str, dctT (deqT 11) (lkL ks' u') (lkL ks u) = some (ks.all fun x => decide (x ∈ ks') && decide (u x = u' x))
  | [] => rfl
  | x :: ks => by
    have ih := dct_lk (ks' := ks') (u := u) (u' := u') ks
    unfold lkL at ih ⊢
    rw [List.map_cons, List.all_cons]
    unfold dctT
    have e : lookD (ks'.map fun x => ((Sum.inr x : Key), D.int (u' x))) (.inr x) = if x ∈ ks' then some (.int (u' x)) else none := val_lk ks' u' x
    rw [e]
    by_cases h : x ∈ ks'
    · rw [if_pos h, decide_eq_true h]
      dsimp only
      rw [deq_ints, ih]
      rfl
    · rw [if_neg h, decide_eq_false h]
      dsimp only
      rw [ih]
      rfl
theorem neD_lk {μ : Mu} {d d' : D} {ks ks' : List Str} {u u' : Str → Int} {Q : D → Mu → Prop} (e1 : lk μ d = .dct (lkL ks u)) (e2 : lk μ d' = .dct (lkL ks' u')) (h1 : ks.Nodup) (h2 : ks'.Nodup) (q : Q (.bl (!eqLk ks u ks' u')) μ) : gNeD d d' μ Q := by
  refine ⟨_, _, e1, e2, lk_nodup h1, lk_nodup h2, _, dct_lk ks, ?_⟩
  unfold eqLk lkL at *
  rw [List.length_map, List.length_map]
  exact q
/-- the liked best ones of some -/
def bestL (ns : List Str) (u : Str → Int) (xs : List Str) : List Str := ns.filter fun x => decide (x ∈ xs) && decide (u x = maxI (xs.map u))
def S_W_best (C : Cs) : DSp := fun ds μ Q E => ∃ ns u d xs, ds = [wD C ns u, d] ∧ (d = .lst (xs.map .str) ∨ d = tupS xs) ∧ xs.length ≤ 100 ∧ ns.length ≤ 100 ∧
  (xs = [] → E ⟨.BadCount, [("count", .int 0)]⟩ μ) ∧ (∀ x, xs.find? (fun x => decide (x ∉ ns)) = some x → E ⟨.UnknownName, [("name", .str x)]⟩ μ) ∧ (xs ≠ [] → (∀ x ∈ xs, x ∈ ns) → Q (tupS (bestL ns u xs)) μ)
def t_W_best_3 (C : Cs) : DTS := dRet (dCall gTuple (dCons (dComp true [2] (dIterK (dFld C.W "likes" (dVar 0))) (cName 2) (dAndT (dTest (dBin (gIn false) (dVar 2) (dVar 1))) (dTest (dBin gEq (dBin gDGet (dFld C.W "likes" (dVar 0)) (dVar 2)) (dVar 3)))) (dVar 2)) dNil))
def t_W_best_2 (C : Cs) : DTS := dSeq (dAsg (dCall gMaxL (dCons (dComp true [2] (dIter (dVar 1)) (cName 2) (dYes) (dBin gDGet (dFld C.W "likes" (dVar 0)) (dVar 2))) dNil)) (dName 3)) (t_W_best_3 C)
def t_W_best_1 (C : Cs) : DTS := dSeq (dFor (dIter (dVar 1)) (dName 2) (dIf (dTest (dBin (gDIn true) (dVar 2) (dFld C.W "likes" (dVar 0)))) (dRaise .UnknownName "name" (dVar 2)) (dNext))) (t_W_best_2 C)
def t_W_best (C : Cs) : DTS := dSeq (dIf (dTest (dBin gEq (dCall gLen (dCons (dVar 1) dNil)) (dC (.int 0)))) (dRaise .BadCount "count" (dC (.int 0))) (dNext)) (t_W_best_1 C)
theorem rd_W_best {C : Cs} {n1 n2 n3 n4 : Str} : ∀ ds μ Q E, S_W_best C ds μ Q E → t_W_best C (dFn μ Q E) (start0 [n1, n2, n3, n4] ds) μ := by
  rintro _ μ Q E ⟨ns, u, d, xs, rfl, hd, hl, hnl, e0, e1, q⟩
  unfold t_W_best
  rw [dSeq]
  have gl : ∀ (Q' : D → Mu → Prop), gLen [d] μ Q' = Q' (.int (xs.length : Int)) μ := fun Q' => by
    rcases hd with rfl | rfl <;> (unfold gLen; simp only [lk, tupS, List.length_map])
  have it : ∀ Γ (Q' : Option (Nat × List D) → List D → Mu → Prop) E', Γ[1]? = some (some d) → dIter (dVar 1) Γ μ Q' E' = Q' none (xs.map .str) μ := fun Γ Q' E' h => by
    rcases hd with rfl | rfl <;> simp only [dIter, dVar, h, tupS]
  simp only [dIf, dTest, dBin, dCall, dCons, dNil, dC, dVar, start0, List.map_cons, List.map_nil, List.length_cons, List.length_nil, List.replicate, List.cons_append, List.nil_append, List.getElem?_cons_zero, List.getElem?_cons_succ, gl, gEq, deq_int]
  refine ⟨deqOk_int _ _ _, ?_⟩
  by_cases h0 : xs = []
  · rw [decide_eq_true (by rw [h0]; rfl)]
    simp only [cond_true, dRaise, dC]
    exact FnExc.here rfl (e0 h0)
  rw [decide_eq_false (by cases xs with | nil => exact absurd rfl h0 | cons x r => simp; omega)]
  simp only [cond_false, dNext]
  unfold t_W_best_1
  try dsimp only
  rw [dSeq]
  simp only [dFor]
  rw [it _ _ _ rfl]
  refine loop_stop (src := none) (fun Γ => ∃ a2 a3, Γ = [some (wD C ns u), some d, a2, a3]) D.str (fun x => decide (x ∉ ns)) (fun x => E ⟨.UnknownName, [("name", .str x)]⟩ μ) trivial xs _ ⟨_, _, rfl⟩ ?_ ?_ ?_
  · rintro x hx Γ ⟨a2, a3, rfl⟩ Kn k1 k2
    simp only [dName, List.set_cons_succ, List.set_cons_zero, dIf, dTest, dBin, dFld, dVar, List.getElem?_cons_zero, List.getElem?_cons_succ, wD, lk, w_look]
    refine ⟨trivial, ?_⟩
    simp only [gDIn, lk, keyOfD, val_lk]
    by_cases hm : x ∈ ns
    · rw [if_pos hm]
      simp only [Option.isSome_some, Bool.not_true, if_true, cond_false, dNext]
      exact k2 (by simp [hm]) _ ⟨_, _, rfl⟩
    · rw [if_neg hm]
      simp only [Option.isSome_none, Bool.not_false, if_true, cond_true, dRaise, dVar, List.getElem?_cons_zero, List.getElem?_cons_succ]
      exact FnExc.here rfl (k1 (by simp [hm]))
  · exact e1
  · rintro hno Γ ⟨a2, a3, rfl⟩
    have hin : ∀ x ∈ xs, x ∈ ns := fun x hx => by
      have := List.find?_eq_none.mp hno x hx
      simpa using this
    have q := q h0 hin
    unfold t_W_best_2
    try dsimp only
    rw [dSeq]
    simp only [dAsg, dCall, dCons, dNil, dComp]
    rw [it _ _ _ rfl]
    simp only [wipeG, List.set_cons_succ, List.set_cons_zero]
    refine comp_list (src := none) ((xs.map u).map .int) trivial (by simp) (by rw [List.length_map, sizeLine_eq]; omega) ?_ ?_
    · intro j x y hx hy K1 K2 k1
      rw [List.getElem?_map] at hx hy
      rw [List.getElem?_map] at hy
      cases hj : xs[j]? with
      | none => rw [hj] at hx; cases hx
      | some z =>
        rw [hj] at hx hy
        cases hx; cases hy
        simp only [cName, dYes, cond_true, dBin, dFld, dVar, List.set_cons_succ, List.set_cons_zero, List.getElem?_cons_zero, List.getElem?_cons_succ, wD, lk, w_look]
        refine ⟨trivial, ?_⟩
        simp only [gDGet, lk, keyOfD, val_lk]
        rw [if_pos (hin z (List.mem_of_getElem? hj))]
        exact k1
    · simp only [dFin, gMaxL, lk]
      refine ⟨xs.map u, rfl, by simpa using h0, ?_⟩
      simp only [dName, List.set_cons_succ, List.set_cons_zero]
      unfold t_W_best_3
      simp only [dRet, dCall, dCons, dNil, dComp, dIterK, dFld, dVar, List.getElem?_cons_zero, List.getElem?_cons_succ, wD, lk, w_look, wipeG, List.set_cons_succ, List.set_cons_zero]
      refine ⟨trivial, ?_⟩
      rw [lk_tupK]
      refine comp_filtS (src := none) (fun x => decide (x ∈ xs) && decide (u x = maxI (xs.map u))) trivial ns (by simp) (by omega) (fun x hx K k => ?_) ?_
      · simp only [dAndT, dTest, dBin, dFld, dVar, List.set_cons_succ, List.set_cons_zero, List.getElem?_cons_zero, List.getElem?_cons_succ, lk, w_look]
        have gi : gIn false (.str x) d μ = fun Q => (D.flat (.str x) = true ∧ (xs.map D.str).all D.flat = true) ∧ Q (.bl (inF (.str x) (xs.map D.str))) μ := by
          funext Q; rcases hd with rfl | rfl <;> simp [gIn, lk, tupS]
        rw [gi]
        refine ⟨⟨rfl, flat_strs' xs⟩, ?_⟩
        rw [inF_strs]
        by_cases hm : x ∈ xs
        · rw [decide_eq_true hm] at k ⊢
          simp only [cond_true]
          refine ⟨trivial, ?_⟩
          simp only [gDGet, lk, keyOfD, val_lk]
          rw [if_pos hx]
          simp only [gEq, deq_int]
          exact ⟨deqOk_int _ _ _, k⟩
        · rw [decide_eq_false hm] at k ⊢
          simp only [cond_false]
          exact k
      · simp only [dFin, gTuple, lk]
        exact FnEnd.here q
end DV
namespace DV
open PySem PySem.Spec PyProof.Rows L2
/-! the makers of firm grids, once more: firmness is kept -/
def wide (k : Nat) (s : List Str) : List Str := s.flatMap (List.replicate k)
def tall (k : Nat) (s : List Str) : List Str := (List.replicate k s).flatten
def stack (g1 g2 : List (List Str)) : List (List Str) := g1.map (wide (wid g2)) ++ g2.map (tall (wid g1))
/-- the parts, in their cell -/
def PartsAtF (W : List Str) (lp : Nat) (p : Nat → Prop) (μ : Mu) (parts : List D) : Prop := μ[lp]? = some (.lst parts) ∧ ∀ a ∈ parts, ∃ g, (GB W 8 g ∧ Fm g) ∧ GCell p μ a g
theorem PartsAtF.keep {W : List Str} {lp : Nat} {p : Nat → Prop} {μ μ' : Mu} {parts parts' : List D} (h : PartsAtF W lp p μ parts) (h1 : μ'[lp]? = some (.lst parts')) (h2 : ∀ a ∈ parts', a ∈ parts) (h3 : ∀ a g, GCell p μ a g → GCell p μ' a g) : PartsAtF W lp p μ' parts' :=
  ⟨h1, fun a ha => let ⟨g, b, c⟩ := h.2 a (h2 a ha); ⟨g, b, h3 a g c⟩⟩
end DV
local macro_rules | `(tactic| walk_at "dv") => `(tactic| try simp only [DV.dSeq, DV.dIf, DV.dOrT, DV.dAndT, DV.dNotT, DV.dTest, DV.dChain, DV.dC, DV.dCall, DV.gLen, DV.dCons, DV.dVar, DV.dNil, DV.dBin, DV.dUn, DV.gNeg, DV.gIn, DV.gIx, DV.dRet, DV.dRetN, DV.dNext, DV.dFor, DV.dIter, DV.dName, DV.lk, DV.dAsg, DV.dDrop, DV.gLst, DV.gTup, DV.gLstM, DV.gAdd, DV.gI, DV.gMod, DV.gMul, DV.gFdiv, DV.gPow, DV.gAbs, DV.gInt, DV.gList, DV.gTuple, DV.dOp, DV.dOpK, DV.dIsi, DV.tyD, DV.gIs, DV.gIsNot, DV.D.isN, DV.dJoin, DV.dCellM, DV.dSetI, DV.dSlice, DV.dPart, DV.dNoPart, DV.dRevA, DV.dFin, DV.dAugI, DV.dComp, DV.wipeG, DV.cName, DV.cPair, DV.dYes, DV.dRange1, DV.dRange2, DV.dAnd, DV.dOr, DV.dNot, DV.dIfE, DV.gEq, DV.gNe, DV.sgn_one, DV.atI_zero, DV.dTruth, DV.truD, DV.dBreak, DV.dCont, DV.gSorted, DV.dSortK, DV.dRevT, DV.gInD, DV.gIsB, DV.gStr, DV.dPop0, DV.dDict, DV.dPairs, DV.keysD, DV.keyOfD, DV.dFinD, DV.dFld, DV.dSetF, DV.dMake, DV.dMethod, DV.dProp, DV.dOwnIx, DV.dNever, DV.dRaise, DV.dRaise0, DV.gMulM, DV.gAddM, DV.gMax2, DV.dPair, DV.gDGet, DV.dSetD, DV.dDict0, DV.dComp2, DV.dSortSC, DV.isIns, DV.insOf,
  List.getElem?_cons_zero, List.getElem?_cons_succ, List.set_cons_zero, List.set_cons_succ, List.map_cons, List.map_nil, List.length_cons, List.length_nil, List.replicate, Nat.sub_self, List.append_nil, List.cons_append, List.nil_append, DV.start0, if_true, if_false, Bool.not_true, Bool.not_false, Bool.false_eq_true, Bool.true_and, Bool.and_true, Bool.or_true, Bool.true_or, Bool.false_or, Bool.or_false, eq_self_iff_true, not_true_eq_false, not_false_eq_true, ite_true, ite_false, cond_true, cond_false])
namespace DV
open PySem PySem.Spec PyProof.Rows L2
/-! Trees of lines: the plain tables of the draw family. -/
theorem GB.sub {W V : List Str} {n : Nat} {g : List (List Str)} (h : GB W n g) (hs : ∀ x ∈ W, x ∈ V) : GB V n g := ⟨h.h1, h.h2, h.w1, h.w2, h.eq, fun r hr x hx => hs x (h.mem r hr x hx)⟩
/-! trees as data, and their tables -/
end DV
/-! a, b, c, d = a list of four; (a, b), (c, d) = a pair of pairs -/
namespace DV
open PySem PySem.Spec PyProof.Rows L2
end DV
namespace DV
open PySem PySem.Spec PyProof.Rows L2
/-! the draw family's tables: orders, ways -/
theorem draw_E {μ ext : Mu} {l c : Nat} {m : Int} {Q : D → Mu → Prop} {E : Exn → Mu → Prop} (h : l < μ.length) (hc : 0 < c) (hm : 0 < m) (hm2 : m.natAbs < 2 ^ 60) (q : ∀ d, 0 ≤ d → d < m → Q (.int d) (M μ l (c - 1) ++ ext)) : S_draw [.ref l, .int m] (M μ l c ++ ext) Q E := by
  rw [← M_app h]
  refine draw_M (by rw [List.length_append]; omega) hc hm hm2 fun d h1 h2 => ?_
  rw [M_app h]
  exact q d h1 h2
section
variable {μ r : Mu} {l c : Nat} {x y z : Cell}
theorem mg0 : (M μ l c ++ x :: r)[μ.length]? = some x := by rw [← M_len (μ := μ) (l := l) (c := c)]; exact get_a0
theorem mg1 : (M μ l c ++ x :: y :: r)[μ.length + 1]? = some y := by rw [← M_len (μ := μ) (l := l) (c := c)]; exact get_a1
theorem ms0 : (M μ l c ++ x :: r).set μ.length z = M μ l c ++ z :: r := by rw [← M_len (μ := μ) (l := l) (c := c)]; exact set_a0
theorem ms1 : (M μ l c ++ x :: y :: r).set (μ.length + 1) z = M μ l c ++ x :: z :: r := by rw [← M_len (μ := μ) (l := l) (c := c)]; exact set_a1
end
/-- the order of some items -/
def S_order : DSp := fun ds μ Q _ => ∃ l c d xs, ds = [.ref l, d] ∧ μ[l]? = some (.orc (c, true)) ∧ (lk μ d = .lst xs ∨ lk μ d = .tup xs) ∧ xs.length ≤ 100 ∧ xs.length ≤ c ∧
  ((D.puL xs = true ∧ ∀ c' ys, c ≤ c' + xs.length → ys.Perm xs → Q (.lst ys) (M μ l c')) ∨ ∀ c' ys d' ext, c ≤ c' + xs.length → ys.Perm xs → See (fun k => μ.length ≤ k) (M μ l c' ++ ext) d' ys → Q d' (M μ l c' ++ ext))
def t_order : DTS := dSeq (dAsg (dCall (gList false) (dCons (dVar 1) dNil)) (dName 2)) (dSeq (dAsg (dCall gLstM (dNil)) (dName 3)) (dSeq (dFor (dRange1 (dCall gLen (dCons (dVar 2) dNil))) (dName 4) (dDrop (dCellM cAppend (dVar 3) (dCons (dCellM cPop (dVar 2) (dCons (dOp S_draw (dCons (dVar 0) (dCons (dCall gLen (dCons (dVar 2) dNil)) (dNil)))) dNil)) dNil)))) (dRet (dVar 3))))
theorem rd_order {n1 n2 n3 n4 n5 : Str} : ∀ ds μ Q E, S_order ds μ Q E → t_order (dFn μ Q E) (start0 [n1, n2, n3, n4, n5] ds) μ := by
  rintro _ μ Q E ⟨l, c, d, xs, rfl, ho, hd, hl, hc, q⟩
  have hlt := orc_lt ho
  have e2 : ∀ Q', gList false [d] μ Q' = Q' (.ref μ.length) (μ ++ [.lst xs]) := fun Q' => by
    unfold gList; dsimp only
    rcases hd with e | e <;> rw [e] <;> rfl
  unfold t_order
  simp only [dSeq, dAsg, dCall, dCons, dNil, dVar, start0, List.map_cons, List.map_nil, List.length_cons, List.length_nil, List.replicate, List.cons_append, List.nil_append, List.getElem?_cons_zero, List.getElem?_cons_succ, e2, dName, List.set_cons_succ, List.set_cons_zero, gLstM, dFor, dRange1]
  refine ⟨by rw [sizeLine_eq]; decide, ?_⟩
  have eM : μ = M μ l c := (M_id ho).symm
  have g2 : ∀ Q' : D → Mu → Prop, gLen [.ref μ.length] (μ ++ [.lst xs] ++ [.lst []]) Q' = Q' (.int xs.length) (μ ++ [.lst xs] ++ [.lst []]) := fun Q' => by
    unfold gLen; dsimp only; rw [lk_cell (by rw [List.append_assoc]; exact get_a0)]
  rw [g2]
  refine ⟨by omega, ?_⟩
  have start : μ ++ [Cell.lst xs] ++ [.lst []] = M μ l c ++ [.lst xs, .lst []] := by rw [← eM]; simp
  rw [start, show (μ ++ [Cell.lst xs]).length = μ.length + 1 from by simp]
  refine loop_inv (src := none) (fun i Γ μ' => ∃ c' left told a, c ≤ c' + i ∧ (told ++ left).Perm xs ∧ told.length = i ∧ Γ = [some (.ref l), some d, some (.ref μ.length), some (.ref (μ.length + 1)), a] ∧ μ' = M μ l c' ++ [.lst left, .lst told]) ⟨c, xs, [], none, by omega, by simp, rfl, rfl, rfl⟩ ?_ ?_
  · rintro i d' Γ μ' hd' ⟨c', left, told, a, h1, h2, h3, rfl, rfl⟩
    obtain ⟨hi, rfl⟩ := irng_get hd'
    refine ⟨trivial, fun Kn kn => ?_⟩
    have hlen := h2.length_eq
    simp only [List.length_append] at hlen
    have hi2 : i < xs.length := by simpa using hi
    simp only [dName, dDrop, dCellM, dCons, dNil, dVar, dOp, dCall, gLen, List.set_cons_succ, List.set_cons_zero, List.getElem?_cons_zero, List.getElem?_cons_succ, mg1, mg0, lk_cell (mg0 (μ := μ) (l := l) (c := c') (x := .lst left) (r := [.lst told]))]
    refine draw_E hlt (by omega) (by omega) (by omega) fun t g2 g3 => ?_
    obtain ⟨y, hy, hp⟩ := pop_at g2 g3 (by omega)
    simp only [mg0, mg1, hp, ms0]
    rw [append_at (by omega)]
    simp only [ms1]
    refine kn _ _ ⟨c' - 1, _, told ++ [y], _, by omega, ?_, by simp; omega, rfl, rfl⟩
    rw [List.append_assoc]
    exact ((perm_pop hy).append_left told).trans h2
  · rintro Γ μ' ⟨c', left, told, a, h1, h2, h3, rfl, rfl⟩
    rw [irng_len] at h1 h3
    have hlen := h2.length_eq
    simp only [List.length_append] at hlen
    have hle : left = [] := List.eq_nil_of_length_eq_zero (by omega)
    subst hle
    rw [List.append_nil] at h2
    refine ⟨trivial, ?_⟩
    simp only [dRet, dVar, List.getElem?_cons_zero, List.getElem?_cons_succ]
    have h1 : c ≤ c' + xs.length := by simpa using h1
    rcases q with ⟨hpu, q⟩ | q
    · refine .inr ⟨M μ l c', [.lst [], .lst told], rfl, M_upd, .inr (.inr (.inr (.inl ⟨1, told, by rw [M_len], rfl, ?_, q c' told h1 h2⟩)))⟩
      rw [puL_iff] at hpu ⊢
      exact fun x hx => hpu x (h2.mem_iff.mp hx)
    · exact FnEnd.here (q c' told _ _ h1 h2 (.inr ⟨_, rfl, by omega, mg1⟩))
end DV
namespace DV
open PySem PySem.Spec PyProof.Rows L2
/-! mixed and smooth tables of the draw family -/
theorem See.orcM {p : Nat → Prop} {μ : Mu} {d : D} {xs : List D} {l c c' : Nat} (ho : μ[l]? = some (.orc (c, true))) (h : See p μ d xs) : See p (M μ l c') d xs := by
  rcases h with rfl | ⟨k, rfl, hk, e⟩
  · exact .inl rfl
  · refine .inr ⟨k, rfl, hk, ?_⟩
    rw [M_ne (by rintro rfl; rw [e] at ho; cases ho)]
    exact e
/-! growing a table by lines that leave it firm -/
/-! evaluation -/
theorem if_int {v : Nat} {k p : Int} {Γ : Gam} {μ : Mu} {De : DEnds} {a b : DTS} (h : Γ[v]? = some (some (.int p))) (hq : if p = k then a De Γ μ else b De Γ μ) : dIf (dTest (dBin gEq (dVar v) (dC (.int k)))) a b De Γ μ := by
  simp only [dIf, dTest, dBin, dVar, dC, h, gEq, deq_int]
  refine ⟨deqOk_int _ _ _, ?_⟩
  by_cases e : p = k
  · rw [if_pos e] at hq; rw [decide_eq_true e]; exact hq
  · rw [if_neg e] at hq; rw [decide_eq_false e]; exact hq
end DV
namespace DV
open PySem PySem.Spec PyProof.Rows L2
/-! drawn trees, and the tables of trees -/
end DV
namespace DV
open PySem PySem.Spec PyProof.Rows L2
/-! the table of a tree -/
end DV
namespace DV
open PySem PySem.Spec PyProof.Rows L2
/-! tables that are no trees, and any table -/
end DV
namespace DV
open PySem PySem.Spec PyProof.Rows L2
/-! any table of the draw family -/
section
variable {μ : Mu} {l c : Nat} {ns : List Str} {Q : D → Mu → Prop} {E : Exn → Mu → Prop}
theorem GSee.drawn {p : Nat → Prop} {ext : Mu} {c' : Nat} {d : D} {g : List (List Str)} (hlt : l < μ.length) (h : GSee p (M μ l c ++ ext) d g) : GSee p (M μ l c' ++ ext) d g := by
  have ho : (M μ l c ++ ext)[l]? = some (.orc (c, true)) := get_app (M_get hlt)
  have sall : ∀ r xs, See p (M μ l c ++ ext) r xs → See p (M μ l c' ++ ext) r xs := fun r xs h => by
    have := h.orcM (c' := c') ho
    rwa [M_app (by rw [M_len]; exact hlt), show M (M μ l c) l c' = M μ l c' from M_set] at this
  obtain ⟨rows, h1, h2, h3⟩ := h
  exact ⟨rows, sall _ _ h1, h2, fun i s e => let ⟨r, a, b⟩ := h3 i s e; ⟨r, a, sall _ _ b⟩⟩
theorem GCell.drawn {p : Nat → Prop} {ext : Mu} {c' : Nat} {d : D} {g : List (List Str)} (hlt : l < μ.length) (h : GCell p (M μ l c ++ ext) d g) : GCell p (M μ l c' ++ ext) d g := by
  have ho : (M μ l c ++ ext)[l]? = some (.orc (c, true)) := get_app (M_get hlt)
  have keep : ∀ (k : Nat) xs, (M μ l c ++ ext)[k]? = some (.lst xs) → (M μ l c' ++ ext)[k]? = some (.lst xs) := fun k xs hk => by
    have hne : l ≠ k := by rintro rfl; rw [hk] at ho; cases ho
    have : (M (M μ l c ++ ext) l c')[k]? = some (.lst xs) := by rw [M_ne hne]; exact hk
    rwa [M_app (by rw [M_len]; exact hlt), show M (M μ l c) l c' = M μ l c' from M_set] at this
  obtain ⟨lo, rows, h1, h2, h3, h4, h5⟩ := h
  exact ⟨lo, rows, h1, h2, keep _ _ h3, h4, fun i s e => let ⟨m, a, b, d⟩ := h5 i s e; ⟨m, a, b, keep _ _ d⟩⟩
end
end DV
namespace DV
open PySem PySem.Spec PyProof.Rows L2
/-! the openings of the draw family's laws -/
abbrev MO (c : Nat) : Mu := [Cell.orc (c, true)]
theorem MO_get {c : Nat} : (MO c)[0]? = some (.orc (c, true)) := rfl
theorem draw_MO {c : Nat} {m : Int} {Q : D → Mu → Prop} {E : Exn → Mu → Prop} (hc : 0 < c) (hm : 0 < m) (hm2 : m.natAbs < 2 ^ 60) (q : ∀ d, 0 ≤ d → d < m → Q (.int d) (MO (c - 1))) : S_draw [.ref 0, .int m] (MO c) Q E :=
  draw_M (μ := MO c) (l := 0) (c := c) (by simp) hc hm hm2 q
end DV
namespace DV
open PySem PySem.Spec PyProof.Rows L2
/-! sets of a list's or a tuple's items -/
/-! the law's own look at a table: what it holds, its lines -/
end DV
namespace DV
open PySem PySem.Spec PyProof.Rows L2
/-! the order of sets, and least sets -/
def subB (v w : List Str) : Bool := v.all fun x => decide (x ∈ w)
/-- those that are wanted and in which no earlier one lies -/
def keepL (ok : List Str → Bool) : List (List Str) → List (List Str) → List (List Str)
  | [], acc => acc
  | w :: M, acc => keepL ok M (if ok w && !acc.any (fun v => subB v w) then acc ++ [w] else acc)
end DV
/-! xs.clear() -/
namespace DV
open PySem PySem.Spec PyProof.Rows L2
section
variable {X : Cx} {W : WX} {o : Expr} {fa : DTE} {pos apos : Pos}
def dClear0 (fo : DTE) : DTE := fun Γ μ Q E => fo Γ μ (fun x μ1 => match x with
  | .ref l => (match μ1[l]? with
    | some (.lst xs) => Q .non (μ1.set l (.lst []))
    | _ => False)
  | _ => False) E
theorem de_clear (ho : DE X W o fa) (hbase : attributeBase o "clear" X.env (eval o X.env) = eval o X.env := by rfl) (hline : (apos.endLine == pos.line) = true := by rfl) : DE X W (.Call (.Attribute o "clear" apos) [] [] pos) (dClear0 fa) :=
  PE.imp (pe_bm0 PySem.F.plainAttrs_list PySem.F.slot_list_clear PySem.F.type_list_clear mt_clear ho hbase hline) fun σ H Q ⟨n, Γ, μ, Qd, Ed, hH, sr, gr, h, hq, hx⟩ => by
  subst hH
  refine lift_go sr gr h (fun n1 x dx μ1 s1 r1 p1 q1 => ?_) hx
  cases p1 with
  | @ref l a hl =>
    dsimp only at q1
    split at q1
    · rename_i xs e
      obtain ⟨hb, vs, h1, h2⟩ := r1.cell _ _ _ hl e
      refine ⟨.inl ⟨rfl, vs, SqL.of h1⟩, a, vs, rfl, rfl, h1, ?_⟩
      exact hq (n1.more a (.lst [])) .non .non _ (s1.trans (Step.write hl)) (r1.write hl hb (c := .lst []) ⟨hb, _, upd_same, .nil⟩ (fun k z => by cases z)) .non q1
    · exact q1.elim
  | _ => exact q1.elim
end
end DV
namespace DV
open PySem PySem.Spec PyProof.Rows L2
/-! stops, is_firm, the law's own gap -/
end DV
namespace DV
open PySem PySem.Spec PyProof.Rows L2
/-! lines, their sets, least sets -/
theorem pu_tups (L : List (List Str)) : D.puL (L.map tupS) = true := by
  rw [puL_iff]; intro d hd; obtain ⟨w, _, rfl⟩ := List.mem_map.mp hd; exact pu_tupS w
/-! the law's own least sets -/
end DV
/-! a | b, a & b, ~a by an own method of the class of both. -/
namespace PySem.W
open Lean Elab Tactic Meta PySem PySem.Calls PyProof.Rows
end PySem.W
namespace DV
open PySem PySem.Spec PyProof.Rows L2
end DV
/-! list(range(n)). -/
namespace DV
open PySem PySem.Spec PyProof.Rows L2
end DV
/-! sorted(x), x a list or a tuple. -/
namespace PySem.W
open PySem PySem.Spec PyProof.Rows PySem.Calls
end PySem.W
namespace DV
open PySem PySem.Spec PyProof.Rows L2
end DV
namespace DV
open PySem PySem.Spec PyProof.Rows L2
/-! powers: families of sets as monotone predicates -/
def kp (P : List Str) (ok : List Str → Bool) : List (List Str) := keepL ok (setsS P) []
/-! the other side -/
def joinL (P : List Str) (F1 F2 : List (List Str)) : List (List Str) := F1.flatMap fun f => F2.map fun h => P.filter fun x => decide (x ∈ f ∨ x ∈ h)
/-! the program's -/
end DV
namespace DV
open PySem PySem.Spec PyProof.Rows L2
end DV
/-! (a, b) = a list of two. -/
namespace DV
open PySem PySem.Spec PyProof.Rows L2
end DV
namespace DV
open PySem PySem.Spec PyProof.Rows L2
/-! the law's small ones -/
theorem ret_listD {μ μ1 : Mu} {ds : List D} {Q : D → Mu → Prop} (u : Upd μ μ1) (hp : D.puL ds = true) (q : Q (.lst ds) μ1) : FnEnd μ (.ref μ1.length) (μ1 ++ [.lst ds]) Q :=
  .inr ⟨μ1, _, rfl, u, .inr (.inr (.inr (.inl ⟨0, _, rfl, rfl, hp, q⟩)))⟩
end DV
local macro_rules | `(tactic| walk_at "dv") => `(tactic| try simp only [DV.dSeq, DV.dIf, DV.dOrT, DV.dAndT, DV.dNotT, DV.dTest, DV.dChain, DV.dC, DV.dCall, DV.gLen, DV.dCons, DV.dVar, DV.dNil, DV.dBin, DV.dUn, DV.gNeg, DV.gIn, DV.gIx, DV.dRet, DV.dRetN, DV.dNext, DV.dFor, DV.dIter, DV.dName, DV.lk, DV.dAsg, DV.dDrop, DV.gLst, DV.gTup, DV.gLstM, DV.gAdd, DV.gI, DV.gMod, DV.gMul, DV.gFdiv, DV.gPow, DV.gAbs, DV.gInt, DV.gList, DV.gTuple, DV.dOp, DV.dOpK, DV.dIsi, DV.tyD, DV.gIs, DV.gIsNot, DV.D.isN, DV.dJoin, DV.dCellM, DV.dSetI, DV.dSlice, DV.dPart, DV.dNoPart, DV.dRevA, DV.dFin, DV.dAugI, DV.dComp, DV.wipeG, DV.cName, DV.cPair, DV.dYes, DV.dRange1, DV.dRange2, DV.dAnd, DV.dOr, DV.dNot, DV.dIfE, DV.gEq, DV.gNe, DV.sgn_one, DV.atI_zero, DV.dTruth, DV.truD, DV.dBreak, DV.dCont, DV.gSorted, DV.dSortK, DV.dRevT, DV.gInD, DV.gIsB, DV.gStr, DV.dPop0, DV.dDict, DV.dPairs, DV.keysD, DV.keyOfD, DV.dFinD, DV.dFld, DV.dSetF, DV.dMake, DV.dMethod, DV.dProp, DV.dOwnIx, DV.dNever, DV.gMulM, DV.gAddM, DV.gMax2, DV.dPair, DV.gDGet, DV.dSetD, DV.dDict0, DV.dComp2, DV.dSortSC, DV.isIns, DV.insOf,
  List.getElem?_cons_zero, List.getElem?_cons_succ, List.set_cons_zero, List.set_cons_succ, List.map_cons, List.map_nil, List.length_cons, List.length_nil, List.replicate, Nat.sub_self, List.append_nil, List.cons_append, List.nil_append, DV.start0, if_true, if_false, Bool.not_true, Bool.not_false, Bool.false_eq_true, Bool.true_and, Bool.and_true, Bool.or_true, Bool.true_or, Bool.false_or, Bool.or_false, eq_self_iff_true, not_true_eq_false, not_false_eq_true, ite_true, ite_false, cond_true, cond_false])
namespace DV
open PySem PySem.Spec PyProof.Rows L2
theorem foldI_nodup : ∀ (ks l : List Int), l.Nodup → (ks.foldl addI l).Nodup
  | [], l, h => h
  | k :: ks, l, h => by
    rw [List.foldl_cons]
    refine foldI_nodup ks _ ?_
    unfold addI
    by_cases z : k ∈ l
    · rw [if_pos z]; exact h
    · rw [if_neg z]; exact List.nodup_cons.mpr ⟨z, h⟩
/-- the amounts, the greatest first -/
def amts (ns : List Str) (u : Str → Int) : List Int := ((ns.map u).foldl addI []).mergeSort fun a b => decide (b ≤ a)
theorem amts_mem {ns : List Str} {u : Str → Int} {a : Int} : a ∈ amts ns u ↔ ∃ x ∈ ns, u x = a := by
  unfold amts
  rw [(List.mergeSort_perm _ _).mem_iff, foldI_mem, List.mem_map]
  simp
theorem amts_pw (ns : List Str) (u : Str → Int) : (amts ns u).Pairwise fun a b => b < a := by
  have p : (amts ns u).Pairwise fun a b => decide (b ≤ a) = true := by
    refine List.pairwise_mergeSort (fun a b c h1 h2 => ?_) (fun a b => ?_) _
    · simp only [decide_eq_true_eq] at *; omega
    · simp only [Bool.or_eq_true, decide_eq_true_eq]; omega
  have nd : (amts ns u).Nodup := (List.mergeSort_perm _ _).nodup_iff.mpr (foldI_nodup _ _ List.nodup_nil)
  refine (p.and nd).imp fun {a b} h => ?_
  have h1 := of_decide_eq_true h.1
  have h2 := h.2
  omega
theorem desc_ext : ∀ {l m : List Int}, l.Pairwise (fun a b => b < a) → m.Pairwise (fun a b => b < a) → (∀ x, x ∈ l ↔ x ∈ m) → l = m
  | [], [], _, _, _ => rfl
  | [], b :: m, _, _, h => by have := (h b).mpr List.mem_cons_self; cases this
  | a :: l, [], _, _, h => by have := (h a).mp List.mem_cons_self; cases this
  | a :: l, b :: m, h1, h2, h => by
    rw [List.pairwise_cons] at h1 h2
    have e : a = b := by
      have ha := (h a).mp List.mem_cons_self
      have hb := (h b).mpr List.mem_cons_self
      rcases List.mem_cons.mp ha with z | z
      · exact z
      · rcases List.mem_cons.mp hb with z' | z'
        · exact z'.symm
        · have := h1.1 b z'; have := h2.1 a z; omega
    subst e
    congr 1
    refine desc_ext h1.2 h2.2 fun x => ?_
    constructor
    · intro hx
      rcases List.mem_cons.mp ((h x).mp (List.mem_cons_of_mem _ hx)) with z | z
      · have := h1.1 x hx; omega
      · exact z
    · intro hx
      rcases List.mem_cons.mp ((h x).mpr (List.mem_cons_of_mem _ hx)) with z | z
      · have := h2.1 x hx; omega
      · exact z
/-- the sets of equal amounts, the best first -/
def rk (ns : List Str) (u : Str → Int) : List (List Str) := (amts ns u).map fun a => ns.filter fun x => decide (u x = a)
theorem amts_len (ns : List Str) (u : Str → Int) : (amts ns u).length ≤ ns.length := by
  unfold amts
  rw [(List.mergeSort_perm _ _).length_eq]
  have := foldI_len (ns.map u) []
  simpa using this
theorem rk_len (ns : List Str) (u : Str → Int) : (rk ns u).length ≤ ns.length := by unfold rk; rw [List.length_map]; exact amts_len ns u
theorem rk_sub {ns : List Str} {u : Str → Int} : ∀ r ∈ rk ns u, ∀ x ∈ r, x ∈ ns := fun r hr x hx => by
  unfold rk at hr
  obtain ⟨a, _, rfl⟩ := List.mem_map.mp hr
  exact (List.mem_filter.mp hx).1
def t_W_ranks_3 (C : Cs) : DTS := dRet (dVar 1)
def t_W_ranks_2 (C : Cs) : DTS := dSeq (dWhile (dTest (dBin (gI fun i j => .bl (decide (j < i))) (dCall gLen (dCons (dVar 2) dNil)) (dC (.int 0)))) (dSeq (dAsg (dMethod C.W "best" (S_W_best C) (dVar 0) (dCons (dVar 2) (dNil))) (dName 3)) (dSeq (dDrop (dCellM cAppend (dVar 1) (dCons (dVar 3) dNil))) (dAsg (dComp true [4] (dIter (dVar 2)) (cName 4) (dTest (dBin (gIn true) (dVar 4) (dVar 3))) (dVar 4)) (dName 2))))) (t_W_ranks_3 C)
def t_W_ranks_1 (C : Cs) : DTS := dSeq (dAsg (dCall (gListD true) (dCons (dFld C.W "likes" (dVar 0)) dNil)) (dName 2)) (t_W_ranks_2 C)
def t_W_ranks (C : Cs) : DTS := dSeq (dAsg (dCall gLstM (dNil)) (dName 1)) (t_W_ranks_1 C)
theorem ranks_loop {C : Cs} {μ : Mu} {ns : List Str} {u : Str → Int} (hl : ns.length ≤ 100) : ∀ (as done : List Int) (De : DEnds) (a3 : Option D), done ++ as = amts ns u →
    (∀ a3, De.nx [some (wD C ns u), some (.ref μ.length), some (.lst []), a3, none] (μ ++ [.lst ((rk ns u).map tupS)])) →
    dWhileN (dTest (dBin (gI fun i j => .bl (decide (j < i))) (dCall gLen (dCons (dVar 2) dNil)) (dC (.int 0)))) (dSeq (dAsg (dMethod C.W "best" (S_W_best C) (dVar 0) (dCons (dVar 2) (dNil))) (dName 3)) (dSeq (dDrop (dCellM cAppend (dVar 1) (dCons (dVar 3) dNil))) (dAsg (dComp true [4] (dIter (dVar 2)) (cName 4) (dTest (dBin (gIn true) (dVar 4) (dVar 3))) (dVar 4)) (dName 2)))) (as.length + 1) De
      [some (wD C ns u), some (.ref μ.length), some (.lst ((ns.filter fun x => decide (u x ∈ as)).map .str)), a3, none] (μ ++ [.lst ((done.map fun a => ns.filter fun x => decide (u x = a)).map tupS)])
  | [], done, De, a3, he, k => by
    rw [dWhileN]
    simp only [dTest, dBin, dCall, dCons, dNil, dC, dVar, List.getElem?_cons_zero, List.getElem?_cons_succ, gLen, lk, gI]
    have e : (ns.filter fun x => decide (u x ∈ ([] : List Int))) = [] := by
      rw [List.filter_eq_nil_iff]; intro x _; simp
    rw [e]
    rw [decide_eq_false (by simp)]
    simp only [cond_false, List.map_nil]
    rw [List.append_nil] at he
    have := k a3
    unfold rk at this
    rw [← he] at this
    exact this
  | a :: as, done, De, a3, he, k => by
    have pw := amts_pw ns u
    rw [← he, List.pairwise_append] at pw
    have pw2 := List.pairwise_cons.mp pw.2.1
    have ha : a ∈ amts ns u := by rw [← he]; simp
    obtain ⟨x0, hx0, hu0⟩ := amts_mem.mp ha
    have mem0 : x0 ∈ ns.filter fun x => decide (u x ∈ a :: as) := List.mem_filter.mpr ⟨hx0, by simp [hu0]⟩
    obtain ⟨left, hL⟩ : ∃ left, left = ns.filter fun x => decide (u x ∈ a :: as) := ⟨_, rfl⟩
    have ll : left.length ≤ 100 := by rw [hL]; exact Nat.le_trans (List.length_filter_le _ _) hl
    have lne : left ≠ [] := List.ne_nil_of_mem (by rw [hL]; exact mem0)
    have mx : maxI (left.map u) = a := by
      refine maxI_eq (List.mem_map.mpr ⟨x0, by rw [hL]; exact mem0, hu0⟩) fun b hb => ?_
      obtain ⟨y, hy, rfl⟩ := List.mem_map.mp hb
      rw [hL] at hy
      have := of_decide_eq_true (List.mem_filter.mp hy).2
      rcases List.mem_cons.mp this with z | z
      · omega
      · have := pw2.1 _ z; omega
    have hb : bestL ns u left = ns.filter fun x => decide (u x = a) := by
      unfold bestL
      rw [mx]
      refine List.filter_congr fun x hx => ?_
      by_cases z : u x = a
      · rw [decide_eq_true z, Bool.and_true]
        exact decide_eq_true (by rw [hL]; exact List.mem_filter.mpr ⟨hx, by simp [z]⟩)
      · rw [decide_eq_false z, Bool.and_false]
    rw [List.length_cons, dWhileN, ← hL]
    simp only [dTest, dBin, dCall, dCons, dNil, dC, dVar, List.getElem?_cons_zero, List.getElem?_cons_succ, gLen, lk, gI, List.length_map]
    rw [decide_eq_true (by cases left with | nil => exact absurd rfl lne | cons x r => first | (simp; done) | (simp; omega))]
    simp only [cond_true]
    rw [dSeq]
    simp only [dAsg, dMethod, dCons, dNil, dVar, List.getElem?_cons_zero, List.getElem?_cons_succ]
    have lin : ∀ x ∈ left, x ∈ ns := fun x hx => by rw [hL] at hx; exact (List.mem_filter.mp hx).1
    refine ⟨w_own (by decide +kernel), ns, u, _, left, rfl, .inl rfl, ll, hl, fun z => absurd z lne, fun x hx => ?_, fun _ _ => ?_⟩
    · have h1 := List.find?_some hx
      have h2 := List.mem_of_find?_eq_some hx
      exact absurd (lin x h2) (by simpa using h1)
    rw [hb]
    simp only [dName, List.set_cons_succ, List.set_cons_zero]
    rw [dSeq]
    have dl : (done.map fun a => ns.filter fun x => decide (u x = a)).length ≤ 100 := by
      rw [List.length_map]
      have h1 := amts_len ns u
      have h2 := congrArg List.length he
      rw [List.length_append] at h2
      omega
    generalize hD : (done.map fun a => ns.filter fun x => decide (u x = a)) = D0 at dl
    have gc : (μ ++ [Cell.lst (D0.map tupS)])[μ.length]? = some (.lst (D0.map tupS)) := get_a0
    simp only [dDrop, dCellM, dCons, dNil, dVar, List.getElem?_cons_zero, List.getElem?_cons_succ, gc]
    rw [append_at (by rw [List.length_map]; omega)]
    dsimp only
    rw [set_a0]
    simp only [dAsg, dComp, dIter, dVar, List.getElem?_cons_zero, List.getElem?_cons_succ, wipeG, List.set_cons_succ, List.set_cons_zero]
    refine comp_filtS (src := none) (fun x => decide (x ∉ ns.filter fun x => decide (u x = a))) trivial left (by simp) (by omega) (fun x hx K kk => ?_) ?_
    · simp only [dTest, dBin, dVar, List.set_cons_succ, List.set_cons_zero, List.getElem?_cons_zero, List.getElem?_cons_succ, gIn, lk, tupS]
      refine ⟨⟨rfl, flat_strs' _⟩, ?_⟩
      rw [inF_strs, if_pos trivial]
      rw [show (!decide (x ∈ ns.filter fun x => decide (u x = a))) = decide (x ∉ ns.filter fun x => decide (u x = a)) from by by_cases h : x ∈ ns.filter fun x => decide (u x = a) <;> simp [h]]
      exact kk
    · simp only [dFin, dName, List.set_cons_succ, List.set_cons_zero]
      have e : (left.filter fun x => decide (x ∉ ns.filter fun x => decide (u x = a))) = ns.filter fun x => decide (u x ∈ as) := by
        rw [hL, List.filter_filter]
        refine List.filter_congr fun x hx => ?_
        have na : a ∉ as := fun z => by have := pw2.1 a z; omega
        by_cases z : u x = a
        · have h1 : x ∈ ns.filter fun x => decide (u x = a) := List.mem_filter.mpr ⟨hx, decide_eq_true z⟩
          rw [decide_eq_false (fun h => h h1), Bool.false_and, decide_eq_false (by rw [z]; exact na)]
        · have h1 : x ∉ ns.filter fun x => decide (u x = a) := fun h => z (of_decide_eq_true (List.mem_filter.mp h).2)
          rw [decide_eq_true h1, Bool.true_and]
          congr 1
          exact propext ⟨fun h => (List.mem_cons.mp h).resolve_left z, fun h => List.mem_cons_of_mem _ h⟩
      rw [e]
      have ih := ranks_loop (C := C) (μ := μ) hl as (done ++ [a]) De (some (tupS (ns.filter fun x => decide (u x = a)))) (by rw [List.append_assoc]; exact he) k
      rw [List.map_append, hD, List.map_append] at ih
      exact ih
end DV
namespace DV
open PySem PySem.Spec PyProof.Rows L2
theorem rise_rev {ks ns : List Str} {u : Str → Int} {as : List Int} (hp : as.Pairwise (· < ·)) (hm : ∀ k, k ∈ as ↔ k ∈ ks.map u) (hn : ∀ x, x ∈ ns ↔ x ∈ ks) : as.reverse = amts ns u := by
  refine desc_ext (List.pairwise_reverse.mpr hp) (amts_pw ns u) fun a => ?_
  rw [List.mem_reverse, hm, amts_mem, List.mem_map]
  constructor
  · rintro ⟨x, hx, e⟩; exact ⟨x, (hn x).mpr hx, e⟩
  · rintro ⟨x, hx, e⟩; exact ⟨x, (hn x).mp hx, e⟩
def S_l_ranks4 : DSp := fun ds μ Q _ => ∃ ks u, ds = [.dct (lkL ks u)] ∧ ks.length ≤ 50 ∧ Q (.lst ((rk (sortS ks) u).map tupS)) μ
theorem keys_lk (ks : List Str) (u : Str → Int) : keysS (lkL ks u) = some ks := by
  unfold lkL
  induction ks with
  | nil => rfl
  | cons k ks ih => rw [List.map_cons]; unfold keysS; rw [ih]; rfl
def t_l_ranks4 : DTS := dSeq (dAsg (dCall gLstM (dNil)) (dName 1)) (dSeq (dFor (dIter (dRevA true (dCall (gSortSetN true) (dCons (dComp true [3] (dIterK (dVar 0)) (cName 3) (dYes) (dBin gDGet (dVar 0) (dVar 3))) dNil)))) (dName 2) (dDrop (dCellM cAppend (dVar 1) (dCons (dCall gTuple (dCons (dComp true [3] (dIter (dCall (gSortedD true) (dCons (dVar 0) dNil))) (cName 3) (dTest (dBin gEq (dBin gDGet (dVar 0) (dVar 3)) (dVar 2))) (dVar 3)) dNil)) dNil)))) (dRet (dVar 1)))
theorem rd_l_ranks4 {n1 n2 n3 n4 : Str} : ∀ ds μ Q E, S_l_ranks4 ds μ Q E → t_l_ranks4 (dFn μ Q E) (start0 [n1, n2, n3, n4] ds) μ := by
  rintro _ μ Q E ⟨ks, u, rfl, hl, q⟩
  have pm := sortS_perm ks
  unfold t_l_ranks4
  rw [dSeq]
  simp only [dAsg, dCall, dNil, gLstM, start0, List.map_cons, List.map_nil, List.length_cons, List.length_nil, List.replicate, List.cons_append, List.nil_append]
  refine ⟨by decide, ?_⟩
  simp only [dName, List.set_cons_succ, List.set_cons_zero]
  rw [dSeq]
  simp only [dFor, dIter, dRevA, dCall, dCons, dNil, dComp, dIterK, dVar, List.getElem?_cons_zero, List.getElem?_cons_succ, wipeG, List.set_cons_succ, List.set_cons_zero]
  rw [lk_tupK]
  refine comp_list (src := none) ((ks.map u).map .int) trivial (by simp) (by rw [List.length_map, sizeLine_eq]; omega) ?_ ?_
  · intro j x y hx hy K1 K2 k1
    rw [List.getElem?_map] at hx hy
    rw [List.getElem?_map] at hy
    cases hj : ks[j]? with
    | none => rw [hj] at hx; cases hx
    | some z =>
      rw [hj] at hx hy
      cases hx; cases hy
      simp only [cName, dYes, cond_true, dBin, dVar, List.set_cons_succ, List.set_cons_zero, List.getElem?_cons_zero, List.getElem?_cons_succ, gDGet, lk, keyOfD, val_lk]
      rw [if_pos (List.mem_of_getElem? hj)]
      exact k1
  simp only [dFin, gSortSetN]
  have ei : intsD (μ ++ [Cell.lst []]) (.lst ((ks.map u).map .int)) = some (ks.map u) := by unfold intsD; simp only [lk]; exact ints_mapM _
  rw [ei]
  refine ⟨by rw [List.length_map]; omega, fun as h1 h2 => ?_⟩
  simp only [dFin, lk]
  rw [← List.map_reverse, rise_rev (ns := sortS ks) h1 h2 (fun x => pm.mem_iff)]
  have al := amts_len (sortS ks) u
  have sl := pm.length_eq
  refine loop_inv (src := none) (fun i Γ μ' => ∃ a, Γ = [some (.dct (lkL ks u)), some (.ref μ.length), a, none] ∧ μ' = μ ++ [.lst ((((amts (sortS ks) u).take i).map fun a => (sortS ks).filter fun x => decide (u x = a)).map tupS)]) ⟨none, rfl, rfl⟩ ?_ ?_
  · rintro i d Γ μ' hd ⟨a, rfl, rfl⟩
    refine ⟨trivial, fun Kn kn => ?_⟩
    rw [List.getElem?_map, Option.map_eq_some_iff] at hd
    obtain ⟨am, ha, rfl⟩ := hd
    have kn2 := kn [some (.dct (lkL ks u)), some (.ref μ.length), some (.int am), none] _ ⟨_, rfl, rfl⟩
    rw [List.take_succ, ha] at kn2
    have dl : (((amts (sortS ks) u).take i).map fun a => (sortS ks).filter fun x => decide (u x = a)).length ≤ 100 := by rw [List.length_map, List.length_take]; omega
    rw [List.map_append] at kn2
    generalize (((amts (sortS ks) u).take i).map fun a => (sortS ks).filter fun x => decide (u x = a)) = D0 at dl kn2 ⊢
    have gc : (μ ++ [Cell.lst (D0.map tupS)])[μ.length]? = some (.lst (D0.map tupS)) := get_a0
    simp only [dName, List.set_cons_succ, List.set_cons_zero, dDrop, dCellM, dCall, dCons, dNil, dComp, dIter, dVar, List.getElem?_cons_zero, List.getElem?_cons_succ, gc, gSortedD, lk, keys_lk, wipeG]
    refine ⟨by omega, ?_⟩
    simp only [dFin]
    refine comp_filtS (src := none) (fun x => decide (u x = am)) trivial (sortS ks) (by simp) (by omega) (fun x hx K kk => ?_) ?_
    · simp only [dTest, dBin, dVar, List.set_cons_succ, List.set_cons_zero, List.getElem?_cons_zero, List.getElem?_cons_succ, gDGet, lk, keyOfD, val_lk]
      rw [if_pos (pm.mem_iff.mp hx)]
      simp only [gEq, deq_int]
      exact ⟨deqOk_int _ _ _, kk⟩
    · simp only [dFin, gTuple, lk, gc]
      rw [append_at (by rw [List.length_map]; omega)]
      dsimp only
      rw [set_a0]
      rw [List.map_append] at kn2
      exact kn2
  · rintro Γ μ' ⟨a, rfl, rfl⟩
    refine ⟨trivial, ?_⟩
    rw [List.length_map, List.take_length]
    simp only [dRet, dVar, List.getElem?_cons_zero, List.getElem?_cons_succ]
    exact ret_listD (Upd.refl _) (pu_tups _) q
end DV
namespace DV
open PySem PySem.Spec PyProof.Rows L2
def lkPut (ks : List Str) (x : Str) : List Str := if x ∈ ks then ks else ks ++ [x]
def lkDrop (ks : List Str) (x : Str) : List Str := ks.filter fun y => decide (y ≠ x)
theorem drop_len {x : Str} : ∀ {ks : List Str}, ks.Nodup → ks.length ≤ (lkDrop ks x).length + 1
  | [], _ => by simp
  | k :: ks, h => by
    have h := List.nodup_cons.mp h
    have ih := drop_len (x := x) h.2
    unfold lkDrop at ih ⊢
    rw [List.filter_cons]
    by_cases e : k = x
    · subst e
      rw [if_neg (by simp)]
      have : (ks.filter fun y => decide (y ≠ k)) = ks := List.filter_eq_self.mpr fun y hy => by simp; rintro rfl; exact h.1 hy
      rw [this]; simp
    · rw [if_pos (by simp [e])]
      simp only [List.length_cons]; omega
theorem lkDrop_mem {x y : Str} {ks : List Str} : y ∈ lkDrop ks x ↔ y ∈ ks ∧ y ≠ x := by unfold lkDrop; rw [List.mem_filter, decide_eq_true_eq]
theorem NOk.put {ks : List Str} {x : Str} (h : NOk ks) (hx : validN x = true) (hl : ks.length < 6 ∨ x ∈ ks) : NOk (lkPut ks x) := by
  unfold lkPut
  by_cases m : x ∈ ks
  · rw [if_pos m]; exact h
  · rw [if_neg m]
    have := h.l1
    have hl := hl.resolve_right m
    refine ⟨List.nodup_append.mpr ⟨h.nd, by simp, fun a ha b hb e => m (by rw [List.mem_singleton] at hb; subst hb; exact e ▸ ha)⟩, by simp, by rw [List.length_append]; simp; omega, fun y hy => ?_⟩
    rcases List.mem_append.mp hy with z | z
    · exact h.ok y z
    · rw [List.mem_singleton.mp z]; exact hx
theorem NOk.drop {ks : List Str} {x : Str} (h : NOk ks) (hl : 1 < ks.length) : NOk (lkDrop ks x) := by
  have := drop_len (x := x) h.nd
  have l6 := h.l6
  exact ⟨h.nd.filter _, by omega, by have : (lkDrop ks x).length ≤ ks.length := List.length_filter_le _ _; omega, fun y hy => h.ok y (lkDrop_mem.mp hy).1⟩
theorem seq_skip {v : Nat} {n p : Int} {Γ : Gam} {μ : Mu} {De : DEnds} {a T : DTS} (h : Γ[v]? = some (some (.int p))) (hp : p ≠ n) (k : T De Γ μ) : dSeq (dIf (dTest (dBin gEq (dVar v) (dC (.int n)))) a dNext) T De Γ μ := by
  rw [dSeq]
  refine if_int h ?_
  rw [if_neg hp]
  exact k
theorem seq_take {v : Nat} {n p : Int} {Γ : Gam} {μ : Mu} {De : DEnds} {a T : DTS} (h : Γ[v]? = some (some (.int p))) (hp : p = n) (k : a { De with nx := T De } Γ μ) : dSeq (dIf (dTest (dBin gEq (dVar v) (dC (.int n)))) a dNext) T De Γ μ := by
  rw [dSeq]
  refine if_int h ?_
  rw [if_pos hp]
  exact k
theorem seq_skipA {v : Nat} {n p : Int} {Γ : Gam} {μ : Mu} {De : DEnds} {a T : DTS} {t : DTT} (h : Γ[v]? = some (some (.int p))) (hp : p ≠ n) (k : T De Γ μ) : dSeq (dIf (dAndT (dTest (dBin gEq (dVar v) (dC (.int n)))) t) a dNext) T De Γ μ := by
  rw [dSeq]
  simp only [dIf, dAndT, dTest, dBin, dVar, dC, h, gEq, deq_int]
  refine ⟨deqOk_int _ _ _, ?_⟩
  rw [decide_eq_false hp]
  exact k
theorem seq_takeA {v : Nat} {n p : Int} {Γ : Gam} {μ : Mu} {De : DEnds} {a T : DTS} {t : DTT} (h : Γ[v]? = some (some (.int p))) (hp : p = n) (k : t Γ μ (fun c μ1 => cond c (a { De with nx := T De } Γ μ1) (T De Γ μ1)) fun x μ1 => De.ex x Γ μ1) : dSeq (dIf (dAndT (dTest (dBin gEq (dVar v) (dC (.int n)))) t) a dNext) T De Γ μ := by
  rw [dSeq]
  simp only [dIf, dAndT, dTest, dBin, dVar, dC, h, gEq, deq_int]
  refine ⟨deqOk_int _ _ _, ?_⟩
  rw [decide_eq_true hp]
  exact k
end DV
/-! A dict in the only field of an instance that is a plain dict from here on. -/
namespace DV
open PySem PySem.Spec PyProof.Rows L2
theorem SR0.refield {K : PySem.W.Frag} {n : Now} {μ : Mu} {l : Nat} {a : Addr} {C : Addr} {f : Str} {d e : D} (s : SR0 K n μ) (ha : n.al[l]? = some a) (hc : μ[l]? = some (.ins C [(f, d)])) (hr : ∀ v, Rep K n.Hb n.al v d → Rep K n.Hb n.al v e) : SR0 K n (μ.set l (.ins C [(f, e)])) := by
  refine ⟨s.same, by rw [List.length_set]; exact s.len, s.nd, fun i b c e1 e2 => ?_, s.alh, fun i j x y e1 e2 => ?_, s.phb⟩
  · rw [List.getElem?_set] at e2
    by_cases hi : l = i
    · subst hi
      rw [if_pos rfl] at e2
      split at e2
      · cases e2
        have eq := e1
        rw [ha] at eq; cases eq
        obtain ⟨h0, dx, vs, h1, hk, h2⟩ := s.cell _ _ _ ha hc
        refine ⟨h0, dx, vs, h1, hk, ?_⟩
        change Reps K n.Hb n.al (vs.map (·.2)) [e]
        change Reps K n.Hb n.al (vs.map (·.2)) [d] at h2
        generalize vs.map (·.2) = ws at h2 ⊢
        cases h2 with
        | cons p q => exact .cons (hr _ p) q
      · cases e2
    · rw [if_neg hi] at e2
      exact s.cell i b c e1 e2
  · rw [List.getElem?_set] at e1 e2
    have g : ∀ (i : Nat) x, (if l = i then if l < μ.length then some (Cell.ins C [(f, e)]) else none else μ[i]?) = some (.orc x) → μ[i]? = some (.orc x) := fun i x e => by
      split at e
      · split at e <;> cases e
      · exact e
    exact s.orc1 i j x y (g i x e1) (g j y e2)
section
variable {X : Cx} {W : WX}
def dThawF (C : Addr) (f : Str) (i : Nat) (T : DTS) : DTS := fun D Γ μ => T D Γ μ ∨ ∃ l j kvs, Γ[i]? = some (some (.ref l)) ∧ μ[l]? = some (.ins C [(f, .ref j)]) ∧ μ[j]? = some (.dct kvs) ∧ T D Γ ((μ.set j .gone).set l (.ins C [(f, .dct kvs)]))
theorem ds_thawF {C : Addr} {f : Str} {i : Nat} {st : Stmt} {T : DTS} (h : DS X W st T) : DS X W st (dThawF C f i T) := PS.imp h fun Dn σ H ⟨A, n, Γ, μ, Dd, hH, sa, sr, gr, h, l⟩ => by
  rcases h with h | ⟨k, j, kvs, e1, e2, e3, h⟩
  · exact ⟨A, n, Γ, μ, Dd, hH, sa, sr, gr, h, l⟩
  · obtain ⟨v, hv, rv⟩ := gr.at_ i _ e1
    cases rv with
    | @ref _ a ha =>
      obtain ⟨h0, dx, vs, h1, hk, h2⟩ := sr.cell _ _ _ ha e2
      change Reps X.K n.Hb n.al (vs.map (·.2)) [.ref j] at h2
      generalize vs.map (·.2) = ws at h2
      cases h2 with
      | @cons v1 _ vs1 _ p q =>
        cases p with
        | @ref _ b hb =>
          obtain ⟨n', hn, stp, sr', rp⟩ := thaw sr hb e3
          have hjk : j ≠ k := fun z => by subst z; rw [e2] at e3; cases e3
          have ha' : n'.al[k]? = some a := pre_get stp.pre ha
          have hb' : n'.al[j]? = some b := pre_get stp.pre hb
          refine ⟨A, n', _, _, Dd, hn.trans hH, sa.trans stp, sr'.refield ha' (by rw [List.getElem?_set_ne hjk]; exact e2) (fun v hv => ?_), gr.step stp, h, l⟩
          cases hv with
          | @ref _ b2 hb2 =>
            rw [hb'] at hb2; cases hb2
            exact rp
end
end DV
local macro_rules | `(tactic| walk_at "dv") => `(tactic| try simp only [DV.dSeq, DV.dIf, DV.dOrT, DV.dAndT, DV.dNotT, DV.dTest, DV.dChain, DV.dC, DV.dCall, DV.gLen, DV.dCons, DV.dVar, DV.dNil, DV.dBin, DV.dUn, DV.gNeg, DV.gIn, DV.gIx, DV.dRet, DV.dRetN, DV.dNext, DV.dFor, DV.dIter, DV.dName, DV.lk, DV.dAsg, DV.dDrop, DV.gLst, DV.gTup, DV.gLstM, DV.gAdd, DV.gI, DV.gMod, DV.gMul, DV.gFdiv, DV.gPow, DV.gAbs, DV.gInt, DV.gList, DV.gTuple, DV.dOp, DV.dOpK, DV.dIsi, DV.tyD, DV.gIs, DV.gIsNot, DV.D.isN, DV.dJoin, DV.dCellM, DV.dSetI, DV.dSlice, DV.dPart, DV.dNoPart, DV.dRevA, DV.dFin, DV.dAugI, DV.dComp, DV.wipeG, DV.cName, DV.cPair, DV.dYes, DV.dRange1, DV.dRange2, DV.dAnd, DV.dOr, DV.dNot, DV.dIfE, DV.gEq, DV.gNe, DV.sgn_one, DV.atI_zero, DV.dTruth, DV.truD, DV.dBreak, DV.dCont, DV.gSorted, DV.dSortK, DV.dRevT, DV.gInD, DV.gIsB, DV.gStr, DV.dPop0, DV.dDict, DV.dPairs, DV.keysD, DV.keyOfD, DV.dFinD, DV.dFld, DV.dSetF, DV.dMake, DV.dMethod, DV.dProp, DV.dOwnIx, DV.dNever, DV.dRaise, DV.dRaise0, DV.gMulM, DV.gAddM, DV.gMax2, DV.dPair, DV.gDGet, DV.dSetD, DV.dDict0, DV.dComp2, DV.dSortSC, DV.isIns, DV.insOf,
  List.getElem?_cons_zero, List.getElem?_cons_succ, List.set_cons_zero, List.set_cons_succ, List.map_cons, List.map_nil, List.length_cons, List.length_nil, List.replicate, Nat.sub_self, List.append_nil, List.cons_append, List.nil_append, DV.start0, if_true, if_false, Bool.not_true, Bool.not_false, Bool.false_eq_true, Bool.true_and, Bool.and_true, Bool.or_true, Bool.true_or, Bool.false_or, Bool.or_false, eq_self_iff_true, not_true_eq_false, not_false_eq_true, ite_true, ite_false, cond_true, cond_false])
namespace DV
open PySem PySem.Spec PyProof.Rows L2
/-! A table of any rows of texts: the first error that is due. -/
def S_check_numberX : DSp := fun ds μ Q E => ∃ n : Int, ds = [.int n] ∧ ((1 ≤ n ∧ n ≤ 6) → Q .non μ) ∧ (¬ (1 ≤ n ∧ n ≤ 6) → E ⟨.BadCount, [("count", .int n)]⟩ μ)
theorem rd_check_numberX {n1 : Str} : ∀ ds μ Q E, S_check_numberX ds μ Q E → t_check_number (dFn μ Q E) (start0 [n1] ds) μ := by
  rintro _ μ Q E ⟨n, rfl, h1, h2⟩
  unfold t_check_number
  walk_at "dv"
  by_cases h : 1 ≤ n ∧ n ≤ 6
  · rw [decide_eq_true h.1, decide_eq_true h.2]
    exact FnEnd.here (h1 h)
  · have e : (decide (1 ≤ n) && decide (n ≤ 6)) = false := by
      rw [← Bool.decide_and]; exact decide_eq_false h
    cases a : decide (1 ≤ n) with
    | false => exact FnExc.here rfl (h2 h)
    | true =>
      rw [a, Bool.true_and] at e
      rw [e]
      exact FnExc.here rfl (h2 h)
end DV
local macro_rules | `(tactic| walk_at "dv") => `(tactic| try simp only [DV.dSeq, DV.dIf, DV.dOrT, DV.dAndT, DV.dNotT, DV.dTest, DV.dChain, DV.dC, DV.dCall, DV.gLen, DV.dCons, DV.dVar, DV.dNil, DV.dBin, DV.dUn, DV.gNeg, DV.gIn, DV.gIx, DV.dRet, DV.dRetN, DV.dNext, DV.dFor, DV.dIter, DV.dName, DV.lk, DV.dAsg, DV.dDrop, DV.gLst, DV.gTup, DV.gLstM, DV.gAdd, DV.gI, DV.gMod, DV.gMul, DV.gFdiv, DV.gPow, DV.gAbs, DV.gInt, DV.gList, DV.gTuple, DV.dOp, DV.dOpK, DV.dIsi, DV.tyD, DV.gIs, DV.gIsNot, DV.D.isN, DV.dJoin, DV.dCellM, DV.dSetI, DV.dSlice, DV.dPart, DV.dNoPart, DV.dRevA, DV.dFin, DV.dAugI, DV.dComp, DV.wipeG, DV.cName, DV.cPair, DV.dYes, DV.dRange1, DV.dRange2, DV.dAnd, DV.dOr, DV.dNot, DV.dIfE, DV.gEq, DV.gNe, DV.sgn_one, DV.atI_zero, DV.dTruth, DV.truD, DV.dBreak, DV.dCont, DV.gSorted, DV.dSortK, DV.dRevT, DV.gInD, DV.gIsB, DV.gStr, DV.dPop0, DV.dDict, DV.dPairs, DV.keysD, DV.keyOfD, DV.dFinD, DV.dFld, DV.dSetF, DV.dMake, DV.dMethod, DV.dProp, DV.dOwnIx, DV.dNever, DV.gMulM, DV.gAddM, DV.gMax2, DV.dPair, DV.gDGet, DV.dSetD, DV.dDict0, DV.dComp2, DV.dSortSC, DV.isIns, DV.insOf,
  List.getElem?_cons_zero, List.getElem?_cons_succ, List.set_cons_zero, List.set_cons_succ, List.map_cons, List.map_nil, List.length_cons, List.length_nil, List.replicate, Nat.sub_self, List.append_nil, List.cons_append, List.nil_append, DV.start0, if_true, if_false, Bool.not_true, Bool.not_false, Bool.false_eq_true, Bool.true_and, Bool.and_true, Bool.or_true, Bool.true_or, Bool.false_or, Bool.or_false, eq_self_iff_true, not_true_eq_false, not_false_eq_true, ite_true, ite_false, cond_true, cond_false])
namespace DV
open PySem PySem.Spec PyProof.Rows L2
/-! dicts of any plain values -/
def gL (ks : List Str) (v : Str → D) : List (Key × D) := ks.map fun x => (.inr x, v x)
theorem g_len {ks : List Str} {v : Str → D} : (gL ks v).length = ks.length := by unfold gL; rw [List.length_map]
theorem val_g (ks : List Str) (v : Str → D) (x : Str) : valD (gL ks v) (.inr x) = if x ∈ ks then some (v x) else none := by
  induction ks with
  | nil => rfl
  | cons k ks ih =>
    unfold gL at ih ⊢
    rw [List.map_cons]
    by_cases e : k = x
    · subst e; rw [valD_pos rfl, if_pos List.mem_cons_self]
    · rw [valD_neg (fun z => e (by injection z)), ih]
      by_cases h : x ∈ ks
      · rw [if_pos h, if_pos (List.mem_cons_of_mem _ h)]
      · rw [if_neg h, if_neg (fun z => h ((List.mem_cons.mp z).resolve_left fun w => e w.symm))]
theorem keys_g (ks : List Str) (v : Str → D) : keysS (gL ks v) = some ks := by
  unfold gL
  induction ks with
  | nil => rfl
  | cons k ks ih => rw [List.map_cons]; unfold keysS; rw [ih]; rfl
theorem g_ext {ks : List Str} {v w : Str → D} (h : ∀ x ∈ ks, v x = w x) : gL ks v = gL ks w := List.map_congr_left fun x hx => by rw [h x hx]
def upV (v : Str → D) (x : Str) (d : D) : Str → D := fun y => if y = x then d else v y
theorem put_g {ks : List Str} {v : Str → D} {x : Str} {d : D} : putKD (gL ks v) (.inr x) d = gL (lkPut ks x) (upV v x d) := by
  have ha : ((gL ks v).any fun kv => decide (kv.1 = .inr x)) = decide (x ∈ ks) := by
    induction ks with
    | nil => rfl
    | cons k ks ih =>
      unfold gL at ih ⊢
      rw [List.map_cons, List.any_cons, ih]
      by_cases e : x = k
      · subst e; simp
      · have : ¬ (Sum.inr k : Key) = Sum.inr x := fun z => e (by injection z with z; exact z.symm)
        simp [e, this]
  unfold lkPut upV
  by_cases h : x ∈ ks
  · rw [if_pos h]
    unfold putKD
    rw [if_pos (by rw [ha]; simpa using h)]
    unfold gL
    rw [List.map_map]
    refine List.map_congr_left fun y hy => ?_
    simp only [Function.comp]
    by_cases e : y = x
    · subst e; rw [if_pos rfl, if_pos rfl]
    · rw [if_neg (fun z => e (by injection z)), if_neg e]
  · rw [if_neg h]
    unfold putKD
    rw [if_neg (by rw [ha]; simpa using h)]
    unfold gL
    rw [List.map_append]
    congr 1
    · refine List.map_congr_left fun y hy => ?_
      have : y ≠ x := fun z => h (z ▸ hy)
      simp [this]
    · simp
theorem g_lk {ks : List Str} {v : Str → D} {u : Str → Int} (h : ∀ x ∈ ks, v x = .int (u x)) : gL ks v = lkL ks u := List.map_congr_left fun x hx => by rw [h x hx]
/-- the values that stand in the dicts -/
def oddL : List D := [.bl true, .non, .str (Str.ofString "3"), .tup [], .bl false, .lst [.int 1], .str (Str.ofString "")]
def okV (d : D) : Prop := (∃ i, d = .int i) ∨ d ∈ oddL
theorem okV.cases {P : D → Prop} {d : D} (h : okV d) (h0 : ∀ i, P (.int i)) (h1 : P (.bl true)) (h2 : P .non) (h3 : P (.str (Str.ofString "3"))) (h4 : P (.tup [])) (h5 : P (.bl false)) (h6 : P (.lst [.int 1])) (h7 : P (.str (Str.ofString ""))) : P d := by
  rcases h with ⟨i, rfl⟩ | h
  · exact h0 i
  · simp only [oddL, List.mem_cons, List.not_mem_nil, or_false] at h
    rcases h with rfl | rfl | rfl | rfl | rfl | rfl | rfl
    · exact h1
    · exact h2
    · exact h3
    · exact h4
    · exact h5
    · exact h6
    · exact h7
theorem okV.pu {d : D} (h : okV d) : d.pu = true := h.cases (P := fun d => d.pu = true) (fun _ => rfl) rfl rfl rfl rfl rfl rfl rfl
theorem okV.ty {d : D} (h : okV d) (μ : Mu) : lk μ d = d ∧ ∃ t, tyD d = some t ∧ t.sub .int = (isInt d || t.sub .bool) ∧ (isInt d = true → t.sub .bool = false) := h.cases (P := fun d => lk μ d = d ∧ ∃ t, tyD d = some t ∧ t.sub .int = (isInt d || t.sub .bool) ∧ (isInt d = true → t.sub .bool = false)) (fun _ => ⟨rfl, _, rfl, rfl, fun _ => rfl⟩) ⟨rfl, _, rfl, rfl, fun h => by cases h⟩ ⟨rfl, _, rfl, rfl, fun h => by cases h⟩ ⟨rfl, _, rfl, rfl, fun h => by cases h⟩ ⟨rfl, _, rfl, rfl, fun h => by cases h⟩ ⟨rfl, _, rfl, rfl, fun h => by cases h⟩ ⟨rfl, _, rfl, rfl, fun h => by cases h⟩ ⟨rfl, _, rfl, rfl, fun h => by cases h⟩
theorem pu_g {ks : List Str} {v : Str → D} (h : ∀ x ∈ ks, okV (v x)) : D.puK (gL ks v) = true := by
  induction ks with
  | nil => rfl
  | cons k ks ih =>
    have h1 := (h k List.mem_cons_self).pu
    have h2 := ih fun x hx => h x (List.mem_cons_of_mem _ hx)
    unfold gL at h2 ⊢
    rw [List.map_cons]
    unfold D.puK
    rw [h1, h2]; rfl
theorem diff_find : ∀ {ws e : List Str}, (e ++ ws).Nodup → diffX e ws = (ws.find? fun x => !validN x).map fun x => ⟨.BadName, [("name", .str x)]⟩
  | [], _, _ => rfl
  | w :: ws, e, h => by
    have hw : w ∉ e := fun z => by
      rw [List.nodup_append] at h
      exact h.2.2 w z w List.mem_cons_self rfl
    unfold diffX
    cases hv : validN w with
    | true =>
      rw [cond_true, if_neg hw, diff_find (by rw [List.append_assoc]; exact h), List.find?_cons_of_neg (by simp [hv])]
    | false =>
      rw [cond_false, List.find?_cons_of_pos (by simp [hv])]; rfl
/-- the first error that is due -/
def initX (ks : List Str) (v : Str → D) : Option Exn :=
  if 1 ≤ ks.length ∧ ks.length ≤ 6 then
    match (sortS ks).find? (fun x => !validN x) with
    | some x => some ⟨.BadName, [("name", .str x)]⟩
    | none => ((sortS ks).find? fun x => !isInt (v x)).map fun x => ⟨.BadWish, [("value", v x)]⟩
  else some ⟨.BadCount, [("count", .int (ks.length : Int))]⟩
def S_W_initE (C : Cs) : DSp := fun ds μ Q E => ∃ μ1 d ks v, ds = [.ref μ1.length, d] ∧ μ = μ1 ++ [.ins C.W []] ∧ (∀ loc, lk (μ1 ++ loc) d = .dct (gL ks v)) ∧ ks.Nodup ∧ ks.length < 64 ∧ (∀ x ∈ ks, x.length ≤ 1000) ∧ (∀ x ∈ ks, okV (v x)) ∧
  (∀ x c, initX ks v = some x → E x (μ1 ++ [c])) ∧ (initX ks v = none → Q .non (μ1 ++ [.ins C.W [("likes", .ref (μ1.length + 1))], .dct (gL (sortS ks) v)]))
def t_W_initE (C : Cs) : DTS := dSeq (dDrop (dOp S_check_numberX (dCons (dCall gLen (dCons (dVar 1) dNil)) (dNil)))) (dSeq (dDrop (dOp S_check_different (dCons (dCall (gSortedD true) (dCons (dVar 1) dNil)) (dNil)))) (dSeq (dSetF C.W "likes" (dVar 0) (dDict0)) (dFor (dIter (dCall (gSortedD true) (dCons (dVar 1) dNil))) (dName 2) (dSeq (dIf (dNotT (dTest (dOp S_is_integer (dCons (dBin gDGet (dVar 1) (dVar 2)) (dNil))))) (dThawF C.W "likes" 0 (dRaise .BadWish "value" (dBin gDGet (dVar 1) (dVar 2)))) (dNext)) (dAsg (dBin gDGet (dVar 1) (dVar 2)) (dSetD (dFld C.W "likes" (dVar 0)) (dVar 2)))))))
theorem upd_last {μ : Mu} {c d : Cell} (h : d = c ∨ d.pu = true) : Upd (μ ++ [c]) (μ ++ [d]) := by
  refine ⟨by simp, fun i x hx => ?_⟩
  by_cases hi : i < μ.length
  · rw [List.getElem?_append_left hi] at hx ⊢; exact .inl hx
  · obtain ⟨j, rfl⟩ : ∃ j, i = μ.length + j := ⟨i - μ.length, by omega⟩
    rw [List.getElem?_append_right (by omega)] at hx ⊢
    rw [show μ.length + j - μ.length = j from by omega] at hx ⊢
    cases j with
    | zero =>
      cases hx
      rcases h with rfl | h
      · exact .inl rfl
      · exact .inr h
    | succ j => cases hx
theorem rd_W_initE {C : Cs} {n1 n2 n3 : Str} : ∀ ds μ Q E, S_W_initE C ds μ Q E → t_W_initE C (dFn μ Q E) (start0 [n1, n2, n3] ds) μ := by
  rintro _ _ Q E ⟨μ1, d, ks, v, rfl, rfl, hd, hnd, hl, hz, hv, ex, q⟩
  have pm := sortS_perm ks
  have sl := pm.length_eq
  have hsd : (sortS ks).Nodup := pm.nodup_iff.mpr hnd
  unfold initX at ex q
  unfold t_W_initE
  try dsimp only
  rw [dSeq]
  simp only [dDrop, dOp, dCons, dNil, dCall, gLen, dVar, start0, List.map_cons, List.map_nil, List.length_cons, List.length_nil, List.replicate, List.cons_append, List.nil_append, List.getElem?_cons_zero, List.getElem?_cons_succ, hd, g_len]
  refine ⟨_, rfl, fun hc => ?_, fun hc => ?_⟩
  rotate_left
  · rw [if_neg (by omega)] at ex
    exact FnExc.here rfl (ex _ _ rfl)
  rw [if_pos (by omega)] at ex q
  try dsimp only
  rw [dSeq]
  simp only [dDrop, dOp, dCons, dNil, dCall, gSortedD, dVar, List.getElem?_cons_zero, List.getElem?_cons_succ, hd, keys_g, dFin]
  refine ⟨by omega, sortS ks, .inl rfl, by omega, fun x hx => by have := hz x (pm.mem_iff.mp hx); rw [sizeLine_eq]; omega, fun x hx => ?_, fun hx => ?_⟩
  · rw [diff_find (by simpa using hsd)] at hx
    cases hf : (sortS ks).find? fun x => !validN x with
    | none => rw [hf] at hx; cases hx
    | some y =>
      rw [hf] at hx ex
      cases hx
      exact FnExc.here rfl (ex _ _ rfl)
  rw [diff_find (by simpa using hsd)] at hx
  have hf : (sortS ks).find? (fun x => !validN x) = none := by
    cases hf : (sortS ks).find? fun x => !validN x with
    | none => rfl
    | some y => rw [hf] at hx; cases hx
  rw [hf] at ex q
  dsimp only at ex q
  try dsimp only
  rw [dSeq]
  simp only [dSetF, dDict0, dVar, List.getElem?_cons_zero, List.length_append, List.length_cons, List.length_nil]
  have g0 : (μ1 ++ [Cell.ins C.W []] ++ [Cell.dct []])[μ1.length]? = some (.ins C.W []) := by simp
  rw [g0]
  refine ⟨rfl, by decide, ?_⟩
  have g1 : (μ1 ++ [Cell.ins C.W []] ++ [Cell.dct []]).set μ1.length (Cell.ins C.W (putD (Str.ofString "likes") (.ref (μ1.length + (0 + 1))) [])) = μ1 ++ [.ins C.W [("likes", .ref (μ1.length + 1))], .dct []] := by
    rw [List.append_assoc, List.set_append_right _ _ (Nat.le_refl _), Nat.sub_self]; rfl
  rw [g1]
  simp only [dFor, dIter, dCall, dCons, dNil, gSortedD, dVar, List.getElem?_cons_zero, List.getElem?_cons_succ, hd, keys_g, dFin]
  refine ⟨by omega, ?_⟩
  refine loop_inv (src := none) (fun i Γ μ' => ∃ a, i ≤ (sortS ks).length ∧ Γ = [some (.ref μ1.length), some d, a] ∧ (∀ x ∈ (sortS ks).take i, isInt (v x) = true) ∧ μ' = μ1 ++ [.ins C.W [("likes", .ref (μ1.length + 1))], .dct (gL ((sortS ks).take i) v)]) ⟨_, Nat.zero_le _, rfl, by simp, by simp [gL]⟩ ?_ ?_
  · rintro i x Γ μ' hx ⟨a, hi, rfl, hint, rfl⟩
    refine ⟨trivial, fun Kn kn => ?_⟩
    have hlt : i < (sortS ks).length := by have := (List.getElem?_eq_some_iff.mp hx).1; simpa using this
    rw [List.getElem?_map, List.getElem?_eq_getElem hlt] at hx
    cases hx
    have hm : (sortS ks)[i] ∈ ks := pm.mem_iff.mp (List.getElem_mem hlt)
    have hn : (sortS ks)[i] ∉ (sortS ks).take i := fun z => by
      obtain ⟨j, hj, e⟩ := List.getElem_of_mem z
      have hj2 : j < i := by have := hj; simp at this; omega
      rw [List.getElem_take] at e
      have := (List.getElem?_inj (i := j) (j := i) (by omega) hsd).mp (by rw [List.getElem?_eq_getElem (by omega), List.getElem?_eq_getElem hlt, e])
      omega
    have et : (sortS ks).take (i + 1) = (sortS ks).take i ++ [(sortS ks)[i]] := List.take_succ_eq_append_getElem hlt
    have edrop : sortS ks = (sortS ks).take i ++ (sortS ks)[i] :: (sortS ks).drop (i + 1) := by
      have := List.take_append_drop i (sortS ks)
      rw [List.drop_eq_getElem_cons hlt] at this
      exact this.symm
    generalize (sortS ks)[i] = w at hm hn et edrop
    have hw := hv w hm
    obtain ⟨hlk, t, ht, -, -⟩ := hw.ty (μ1 ++ [Cell.ins C.W [((Str.ofString "likes" : Str), D.ref (μ1.length + 1))], Cell.dct (gL ((sortS ks).take i) v)])
    simp only [dName, List.set_cons_zero, List.set_cons_succ, dSeq, dIf, dNotT, dTest, dOp, dCons, dNil, dBin, gDGet, dVar, List.getElem?_cons_zero, List.getElem?_cons_succ, hd, keyOfD, val_g]
    rw [if_pos hm]
    dsimp only
    refine ⟨_, rfl, ⟨t, by rw [hlk]; exact ht⟩, ?_⟩
    cases hI : isInt (v w) with
    | false =>
      have hfind : (sortS ks).find? (fun x => !isInt (v x)) = some w := by
        rw [edrop, List.find?_append, List.find?_eq_none.mpr (fun x hx => by simp [hint x hx])]
        simp [hI]
      rw [hfind] at ex
      simp only [Bool.not_false, cond_true]
      refine .inr ⟨μ1.length, μ1.length + 1, _, rfl, get_a0, get_a1, ?_⟩
      simp only [dRaise, dBin, gDGet, dVar, List.getElem?_cons_zero, List.getElem?_cons_succ]
      rw [set_a1, set_a0, hd]
      simp only [keyOfD, val_g]
      rw [if_pos hm]
      dsimp only
      have pk : D.puK (gL ((sortS ks).take i) v) = true := pu_g fun x hx => hv x (pm.mem_iff.mp (List.mem_of_mem_take hx))
      refine ⟨μ1 ++ [.ins C.W [("likes", .dct (gL ((sortS ks).take i) v))]], [.gone], by simp, upd_last (.inr ?_), ?_, ex _ _ rfl⟩
      · show (D.puK (gL ((sortS ks).take i) v) && true) = true
        rw [pk]; rfl
      · show ((v w).pu && true) = true
        rw [hw.pu]; rfl
    | true =>
      simp only [Bool.not_true, cond_false, dNext, dAsg, dBin, gDGet, dVar, List.getElem?_cons_zero, List.getElem?_cons_succ, hd, keyOfD, val_g, dSetD, dFld]
      rw [if_pos hm]
      dsimp only
      have e1 : lk (μ1 ++ [Cell.ins C.W [("likes", .ref (μ1.length + 1))], Cell.dct (gL ((sortS ks).take i) v)]) (.ref μ1.length) = .ins C.W [("likes", .ref (μ1.length + 1))] := by unfold lk; simp
      have e2 : List.lookup (Str.ofString "likes") [((Str.ofString "likes" : Str), D.ref (μ1.length + 1))] = some (.ref (μ1.length + 1)) := rfl
      rw [e1]
      simp only [e2, get_a1]
      refine ⟨trivial, by rw [g_len, List.length_take, sizeLine_eq]; omega, ?_⟩
      rw [set_a1, put_g]
      refine kn _ _ ⟨_, hlt, rfl, fun x hx => ?_, ?_⟩
      · rw [et] at hx
        rcases List.mem_append.mp hx with hx | hx
        · exact hint x hx
        · rw [List.mem_singleton.mp hx]; exact hI
      rw [et]
      have : lkPut ((sortS ks).take i) w = (sortS ks).take i ++ [w] := by unfold lkPut; rw [if_neg hn]
      rw [this]
      have : gL ((sortS ks).take i ++ [w]) (upV v w (v w)) = gL ((sortS ks).take i ++ [w]) v := g_ext fun x hx => by
        unfold upV
        by_cases z : x = w
        · rw [if_pos z, z]
        · rw [if_neg z]
      rw [this]
  · rintro Γ μ' ⟨a, hi, rfl, hint, rfl⟩
    rw [List.length_map, List.take_length] at *
    have hfind : (sortS ks).find? (fun x => !isInt (v x)) = none := List.find?_eq_none.mpr fun x hx => by simp [hint x hx]
    rw [hfind] at q
    exact ⟨trivial, FnEnd.here (q rfl)⟩
/-! the rest of the class -/
def S_W_item (C : Cs) : DSp := fun ds μ Q E => ∃ ns u x, ds = [wD C ns u, .str x] ∧ (x ∉ ns → E ⟨.UnknownName, [("name", .str x)]⟩ μ) ∧ (x ∈ ns → Q (.int (u x)) μ)
def t_W_item (C : Cs) : DTS := dSeq (dIf (dTest (dBin (gDIn true) (dVar 1) (dFld C.W "likes" (dVar 0)))) (dRaise .UnknownName "name" (dVar 1)) (dNext)) (dRet (dBin gDGet (dFld C.W "likes" (dVar 0)) (dVar 1)))
theorem rd_W_item {C : Cs} {n1 n2 : Str} : ∀ ds μ Q E, S_W_item C ds μ Q E → t_W_item C (dFn μ Q E) (start0 [n1, n2] ds) μ := by
  rintro _ μ Q E ⟨ns, u, x, rfl, e, q⟩
  unfold t_W_item wD
  rw [dSeq]
  simp only [dIf, dTest, dBin, dFld, dVar, start0, List.map_cons, List.map_nil, List.length_cons, List.length_nil, List.replicate, Nat.sub_self, List.append_nil, List.getElem?_cons_zero, List.getElem?_cons_succ, lk, w_look]
  refine ⟨trivial, ?_⟩
  simp only [gDIn, lk, keyOfD, val_lk]
  by_cases hx : x ∈ ns
  · rw [if_pos hx]
    simp only [Option.isSome_some, Bool.not_true, if_true, cond_false, dNext, dRet, dBin, dFld, dVar, List.getElem?_cons_zero, List.getElem?_cons_succ, lk, w_look]
    refine ⟨trivial, ?_⟩
    simp only [gDGet, lk, keyOfD, val_lk]
    rw [if_pos hx]
    exact FnEnd.here (q hx)
  · rw [if_neg hx]
    simp only [Option.isSome_none, Bool.not_false, if_true, cond_true, dRaise, dVar, List.getElem?_cons_zero, List.getElem?_cons_succ]
    exact FnExc.here rfl (e hx)
def S_W_amountsC (C : Cs) : DSp := fun ds μ Q _ => ∃ ns u, ds = [wD C ns u] ∧ (Q (.dct (lkL ns u)) μ ∨ Q (.ref μ.length) (μ ++ [.dct (lkL ns u)]))
def t_W_amountsC (C : Cs) : DTS := dRet (dCall (gDictC false) (dCons (dFld C.W "likes" (dVar 0)) dNil))
theorem rd_W_amountsC {C : Cs} {n1 : Str} : ∀ ds μ Q E, S_W_amountsC C ds μ Q E → t_W_amountsC C (dFn μ Q E) (start0 [n1] ds) μ := by
  rintro _ μ Q E ⟨ns, u, rfl, q⟩
  unfold t_W_amountsC wD
  simp only [dRet, dCall, dCons, dNil, dFld, dVar, start0, List.map_cons, List.map_nil, List.length_cons, List.length_nil, List.replicate, Nat.sub_self, List.append_nil, List.getElem?_cons_zero, lk, w_look, gDictC, dFinD]
  refine ⟨trivial, ?_⟩
  rcases q with q | q
  · exact .inr ⟨μ, _, rfl, Upd.refl _, .inr (.inr (.inr (.inr (.inr (.inl ⟨0, _, rfl, rfl, pu_lk _ _, q⟩)))))⟩
  · exact .inr ⟨μ, _, rfl, Upd.refl _, .inr (.inr (.inr (.inr (.inl ⟨0, _, rfl, rfl, pu_lk _ _, q⟩))))⟩
def S_W_prefersX (C : Cs) : DSp := fun ds μ Q E => ∃ ns u a b, ds = [wD C ns u, .str a, .str b] ∧ (∀ x, [a, b].find? (fun x => decide (x ∉ ns)) = some x → E ⟨.UnknownName, [("name", .str x)]⟩ μ) ∧ (a ∈ ns → b ∈ ns → Q (.bl (decide (u b < u a))) μ)
def t_W_prefersX (C : Cs) : DTS := dSeq (dFor (dIter (dCall gTup (dCons (dVar 1) (dCons (dVar 2) (dNil))))) (dName 3) (dIf (dTest (dBin (gDIn true) (dVar 3) (dFld C.W "likes" (dVar 0)))) (dRaise .UnknownName "name" (dVar 3)) (dNext))) (dRet (dBin (gI fun i j => .bl (decide (j < i))) (dBin gDGet (dFld C.W "likes" (dVar 0)) (dVar 1)) (dBin gDGet (dFld C.W "likes" (dVar 0)) (dVar 2))))
theorem rd_W_prefersX {C : Cs} {n1 n2 n3 n4 : Str} : ∀ ds μ Q E, S_W_prefersX C ds μ Q E → t_W_prefersX C (dFn μ Q E) (start0 [n1, n2, n3, n4] ds) μ := by
  rintro _ μ Q E ⟨ns, u, a, b, rfl, e, q⟩
  unfold t_W_prefersX
  rw [dSeq]
  simp only [dFor, dIter, dCall, dCons, dNil, gTup, dVar, start0, List.map_cons, List.map_nil, List.length_cons, List.length_nil, List.replicate, List.cons_append, List.nil_append, List.getElem?_cons_zero, List.getElem?_cons_succ]
  refine ⟨by decide, ?_⟩
  refine loop_stop (src := none) (fun Γ => ∃ a3, Γ = [some (wD C ns u), some (.str a), some (.str b), a3]) D.str (fun x => decide (x ∉ ns)) (fun x => E ⟨.UnknownName, [("name", .str x)]⟩ μ) trivial [a, b] _ ⟨_, rfl⟩ ?_ e ?_
  · rintro x hx Γ ⟨a3, rfl⟩ Kn k1 k2
    simp only [dName, List.set_cons_succ, List.set_cons_zero, dIf, dTest, dBin, dFld, dVar, List.getElem?_cons_zero, List.getElem?_cons_succ, wD, lk, w_look]
    refine ⟨trivial, ?_⟩
    simp only [gDIn, lk, keyOfD, val_lk]
    by_cases hm : x ∈ ns
    · rw [if_pos hm]
      simp only [Option.isSome_some, Bool.not_true, if_true, cond_false, dNext]
      exact k2 (by simp [hm]) _ ⟨_, rfl⟩
    · rw [if_neg hm]
      simp only [Option.isSome_none, Bool.not_false, if_true, cond_true, dRaise, dVar, List.getElem?_cons_zero, List.getElem?_cons_succ]
      exact FnExc.here rfl (k1 (by simp [hm]))
  · rintro hno Γ ⟨a3, rfl⟩
    have hin : ∀ x ∈ [a, b], x ∈ ns := fun x hx => by
      have := List.find?_eq_none.mp hno x hx
      simpa using this
    have ha := hin a (by simp)
    have hb := hin b (by simp)
    simp only [dRet, dBin, dFld, dVar, List.getElem?_cons_zero, List.getElem?_cons_succ, wD, lk, w_look]
    refine ⟨trivial, ?_⟩
    simp only [gDGet, lk, keyOfD, val_lk]
    rw [if_pos ha]
    refine ⟨trivial, ?_⟩
    rw [if_pos hb]
    simp only [gI]
    exact FnEnd.here (q ha hb)
def S_W_ranks3 (C : Cs) : DSp := fun ds μ Q _ => ∃ ns u, ds = [wD C ns u] ∧ ns.length ≤ 100 ∧ (Q (.lst ((rk ns u).map tupS)) μ ∨ Q (.ref μ.length) (μ ++ [.lst ((rk ns u).map tupS)]))
theorem rd_W_ranks3 {C : Cs} {n1 n2 n3 n4 n5 : Str} : ∀ ds μ Q E, S_W_ranks3 C ds μ Q E → t_W_ranks C (dFn μ Q E) (start0 [n1, n2, n3, n4, n5] ds) μ := by
  rintro _ μ Q E ⟨ns, u, rfl, hl, q⟩
  have rl := rk_len ns u
  unfold t_W_ranks
  rw [dSeq]
  simp only [dAsg, dCall, dNil, gLstM, start0, List.map_cons, List.map_nil, List.length_cons, List.length_nil, List.replicate, List.cons_append, List.nil_append]
  refine ⟨by decide, ?_⟩
  simp only [dName, List.set_cons_succ, List.set_cons_zero]
  unfold t_W_ranks_1
  try dsimp only
  rw [dSeq]
  simp only [dAsg, dCall, dCons, dNil, dFld, dVar, List.getElem?_cons_zero, List.getElem?_cons_succ, wD, lk, w_look]
  refine ⟨trivial, ?_⟩
  simp only [gListD, lk]
  rw [lk_tupK]
  simp only [dFin, dName, List.set_cons_succ, List.set_cons_zero]
  unfold t_W_ranks_2
  try dsimp only
  rw [dSeq]
  rw [dWhile]
  have e : (ns.filter fun x => decide (u x ∈ amts ns u)) = ns := List.filter_eq_self.mpr fun x hx => decide_eq_true (amts_mem.mpr ⟨x, hx, rfl⟩)
  refine ⟨(amts ns u).length + 1, ?_⟩
  have := ranks_loop (C := C) (μ := μ) (ns := ns) (u := u) hl (amts ns u) [] { (dFn μ Q E) with nx := t_W_ranks_3 C (dFn μ Q E) } none rfl fun a3 => by
    unfold t_W_ranks_3
    simp only [dRet, dVar, List.getElem?_cons_zero, List.getElem?_cons_succ]
    rcases q with q | q
    · exact ret_listD (Upd.refl _) (pu_tups _) q
    · exact FnEnd.here q
  rw [e] at this
  exact this
end DV
local macro_rules | `(tactic| walk_at "dv") => `(tactic| try simp only [DV.dSeq, DV.dIf, DV.dOrT, DV.dAndT, DV.dNotT, DV.dTest, DV.dChain, DV.dC, DV.dCall, DV.gLen, DV.dCons, DV.dVar, DV.dNil, DV.dBin, DV.dUn, DV.gNeg, DV.gIn, DV.gIx, DV.dRet, DV.dRetN, DV.dNext, DV.dFor, DV.dIter, DV.dName, DV.lk, DV.dAsg, DV.dDrop, DV.gLst, DV.gTup, DV.gLstM, DV.gAdd, DV.gI, DV.gMod, DV.gMul, DV.gFdiv, DV.gPow, DV.gAbs, DV.gInt, DV.gList, DV.gTuple, DV.dOp, DV.dOpK, DV.dIsi, DV.tyD, DV.gIs, DV.gIsNot, DV.D.isN, DV.dJoin, DV.dCellM, DV.dSetI, DV.dSlice, DV.dPart, DV.dNoPart, DV.dRevA, DV.dFin, DV.dAugI, DV.dComp, DV.wipeG, DV.cName, DV.cPair, DV.dYes, DV.dRange1, DV.dRange2, DV.dAnd, DV.dOr, DV.dNot, DV.dIfE, DV.gEq, DV.gNe, DV.sgn_one, DV.atI_zero, DV.dTruth, DV.truD, DV.dBreak, DV.dCont, DV.gSorted, DV.dSortK, DV.dRevT, DV.gInD, DV.gIsB, DV.gStr, DV.dPop0, DV.dDict, DV.dPairs, DV.keysD, DV.keyOfD, DV.dFinD, DV.dFld, DV.dSetF, DV.dMake, DV.dMethod, DV.dProp, DV.dOwnIx, DV.dNever, DV.dRaise, DV.dRaise0, DV.gMulM, DV.gAddM, DV.gMax2, DV.dPair, DV.gDGet, DV.dSetD, DV.dDict0, DV.dComp2, DV.dSortSC, DV.isIns, DV.insOf,
  List.getElem?_cons_zero, List.getElem?_cons_succ, List.set_cons_zero, List.set_cons_succ, List.map_cons, List.map_nil, List.length_cons, List.length_nil, List.replicate, Nat.sub_self, List.append_nil, List.cons_append, List.nil_append, DV.start0, if_true, if_false, Bool.not_true, Bool.not_false, Bool.false_eq_true, Bool.true_and, Bool.and_true, Bool.or_true, Bool.true_or, Bool.false_or, Bool.or_false, eq_self_iff_true, not_true_eq_false, not_false_eq_true, ite_true, ite_false, cond_true, cond_false])
namespace DV
open PySem PySem.Spec PyProof.Rows L2
end DV
namespace DV
open PySem PySem.Spec PyProof.Rows L2
end DV
namespace DV
open PySem PySem.Spec PyProof.Rows L2
end DV
namespace DV
open PySem PySem.Spec PyProof.Rows L2
/-- a list or a tuple, maybe in a cell -/
def LTSee (μ : Mu) (d : D) (xs : List D) : Prop := d = .lst xs ∨ d = .tup xs ∨ ∃ l, d = .ref l ∧ μ[l]? = some (.lst xs)
theorem LTSee.lk {μ : Mu} {d : D} {xs : List D} (h : LTSee μ d xs) (e : Mu) : lk (μ ++ e) d = .lst xs ∨ lk (μ ++ e) d = .tup xs := by
  rcases h with rfl | rfl | ⟨l, rfl, h⟩
  · exact .inl rfl
  · exact .inr rfl
  · have hl : l < μ.length := (Nat.lt_or_ge l μ.length).elim id fun g => by rw [List.getElem?_eq_none g] at h; cases h
    left
    have z : (μ ++ e)[l]? = some (.lst xs) := by rw [List.getElem?_append_left (l₁ := μ) (l₂ := e) hl]; exact h
    simp [DV.lk, z]
theorem LTSee.len {μ : Mu} {d : D} {xs : List D} (h : LTSee μ d xs) (e : Mu) (Q : D → Mu → Prop) : gLen [d] (μ ++ e) Q = Q (.int xs.length) (μ ++ e) := by
  have := h.lk e
  unfold gLen
  rcases this with z | z <;> simp [z]
end DV
namespace DV
open PySem PySem.Spec PyProof.Rows L2
end DV
namespace DV
open PySem PySem.Spec PyProof.Rows L2
end DV
local macro_rules | `(tactic| walk_at "dv") => `(tactic| try simp only [DV.dSeq, DV.dIf, DV.dOrT, DV.dAndT, DV.dNotT, DV.dTest, DV.dChain, DV.dC, DV.dCall, DV.gLen, DV.dCons, DV.dVar, DV.dNil, DV.dBin, DV.dUn, DV.gNeg, DV.gIn, DV.gIx, DV.dRet, DV.dRetN, DV.dNext, DV.dFor, DV.dIter, DV.dName, DV.lk, DV.dAsg, DV.dDrop, DV.gLst, DV.gTup, DV.gLstM, DV.gAdd, DV.gI, DV.gMod, DV.gMul, DV.gFdiv, DV.gPow, DV.gAbs, DV.gInt, DV.gList, DV.gTuple, DV.dOp, DV.dOpK, DV.dIsi, DV.tyD, DV.gIs, DV.gIsNot, DV.D.isN, DV.dJoin, DV.dCellM, DV.dSetI, DV.dSlice, DV.dPart, DV.dNoPart, DV.dRevA, DV.dFin, DV.dAugI, DV.dComp, DV.wipeG, DV.cName, DV.cPair, DV.dYes, DV.dRange1, DV.dRange2, DV.dAnd, DV.dOr, DV.dNot, DV.dIfE, DV.gEq, DV.gNe, DV.sgn_one, DV.atI_zero, DV.dTruth, DV.truD, DV.dBreak, DV.dCont, DV.gSorted, DV.dSortK, DV.dRevT, DV.gInD, DV.gIsB, DV.gStr, DV.dPop0, DV.dDict, DV.dPairs, DV.keysD, DV.keyOfD, DV.dFinD, DV.dFld, DV.dSetF, DV.dMake, DV.dMethod, DV.dProp, DV.dOwnIx, DV.dNever, DV.gMulM, DV.gAddM, DV.gMax2, DV.dPair, DV.gDGet, DV.dSetD, DV.dDict0, DV.dComp2, DV.dSortSC, DV.isIns, DV.insOf,
  List.getElem?_cons_zero, List.getElem?_cons_succ, List.set_cons_zero, List.set_cons_succ, List.map_cons, List.map_nil, List.length_cons, List.length_nil, List.replicate, Nat.sub_self, List.append_nil, List.cons_append, List.nil_append, DV.start0, if_true, if_false, Bool.not_true, Bool.not_false, Bool.false_eq_true, Bool.true_and, Bool.and_true, Bool.or_true, Bool.true_or, Bool.false_or, Bool.or_false, eq_self_iff_true, not_true_eq_false, not_false_eq_true, ite_true, ite_false, cond_true, cond_false])
namespace DV
open PySem PySem.Spec PyProof.Rows L2
def t_l_good24 : DTS := dSeq (dAsg (dC (.str "abcdefghijklmnopqrstuvwxyz")) (dName 1)) (dSeq (dIf (dOrT (dTest (dBin (gI fun i j => .bl (decide (i < j))) (dCall gLen (dCons (dVar 0) dNil)) (dC (.int 1)))) (dOrT (dTest (dBin (gI fun i j => .bl (decide (j < i))) (dCall gLen (dCons (dVar 0) dNil)) (dC (.int 6)))) (dTest (dBin (gIn true) (dBin gIx (dVar 0) (dC (.int 0))) (dVar 1))))) (dRet (dC (.bl false))) (dNext)) (dRet (dBin gEq (dComp true [2] (dIter (dVar 0)) (cName 2) (dTest (dBin (gIn true) (dVar 2) (dBin gAdd (dVar 1) (dC (.str "0123456789"))))) (dVar 2)) (dCall gLst (dNil)))))
def S_l_good24 : DSp := fun ds μ Q _ => ∃ z : Str, ds = [.str z] ∧ z.length ≤ 1000 ∧ (∀ c ∈ z.cps.toList, asc ⟨#[c]⟩) ∧ Q (.bl (validN z)) μ
theorem rd_l_good24 {n1 n2 n3 : Str} : ∀ ds μ Q E, S_l_good24 ds μ Q E → t_l_good24 (dFn μ Q E) (start0 [n1, n2, n3] ds) μ := by
  rintro _ μ Q E ⟨z, rfl, hz, ha, q⟩
  unfold t_l_good24
  walk_at "dv"
  have hs : z.length ≤ sizeLine := by rw [sizeLine_eq]; omega
  have hl : z.length = z.cps.toList.length := by rw [Array.length_toList]; rfl
  refine ⟨hs, ?_⟩
  unfold validN validC at q
  cases hc : z.cps.toList with
  | nil =>
    rw [hc] at hl q
    rw [hl]
    exact FnEnd.here q
  | cons c l =>
    rw [hc] at hl q
    rw [decide_eq_false (by rw [hl]; simp; omega)]
    simp only [cond_false]
    refine ⟨hs, ?_⟩
    have b1 : decide (1 ≤ (c :: l).length) = true := decide_eq_true (by simp)
    by_cases h6 : (c :: l).length ≤ 6
    · rw [decide_eq_false (by rw [hl]; omega)]
      rw [b1, decide_eq_true h6] at q
      simp only [cond_false]
      refine ⟨hs, ?_⟩
      have q : Q (D.bl (isLet c && (c :: l).all isAln)) μ := q
      have e0 : isLet c = decide (c ∈ (Str.ofString "abcdefghijklmnopqrstuvwxyz").cps.toList) := rfl
      have at0 : atI (c :: l) 0 = some c := by first | exact atI_zero | exact atI_zero _ _ | (unfold atI; unfold ixN; simp; done) | (unfold atI ixN; simp [List.length_cons]; omega)
      rw [at0]
      dsimp only
      rw [← e0]
      cases e1 : isLet c with
      | false =>
        rw [e1] at q
        exact FnEnd.here (by simpa using q)
      | true =>
        rw [e1] at q
        simp only [Bool.not_true, cond_false]
        have sg : signs z = ((c :: l).map fun c => (⟨#[c]⟩ : Str)).map D.str := by unfold signs; rw [hc, List.map_map]; rfl
        rw [sg]
        have key : (((c :: l).map fun c => (⟨#[c]⟩ : Str)).filter fun t => !(t.cps.toList.all isAln)) = [] ↔ (c :: l).all isAln = true := by
          rw [List.filter_eq_nil_iff, List.all_eq_true]
          constructor
          · intro a x hx
            have := a ⟨#[x]⟩ (List.mem_map.mpr ⟨x, hx, rfl⟩)
            simpa using this
          · intro a t ht
            obtain ⟨x, hx, rfl⟩ := List.mem_map.mp ht
            simp [a x hx]
        refine comp_filtS (v := 2) (src := none) (fun t => !(t.cps.toList.all isAln)) trivial _ (by simp) (by rw [List.length_map]; omega) (fun x hx K k => ?_) ?_
        · obtain ⟨y, hy, rfl⟩ := List.mem_map.mp hx
          walk_at "dv"
          refine ⟨by rw [sizeLine_eq]; decide, ?_⟩
          have e : decide (y ∈ (Str.ofString "abcdefghijklmnopqrstuvwxyz" ++ Str.ofString "0123456789").cps.toList) = (Str.cps ⟨#[y]⟩).toList.all isAln := by
            rw [show (Str.ofString "abcdefghijklmnopqrstuvwxyz" ++ Str.ofString "0123456789").cps.toList = LET.cps.toList ++ DIG.cps.toList from by decide +kernel]
            simp [isAln]
          rw [e]
          exact k
        · refine ⟨Nat.zero_le _, ?_⟩
          have aL : ∀ x ∈ (((c :: l).map fun c => (⟨#[c]⟩ : Str)).filter fun t => !(t.cps.toList.all isAln)), asc x := by
            intro x hx
            obtain ⟨y, hy, rfl⟩ := List.mem_map.mp (List.mem_filter.mp hx).1
            exact ha y (by rw [hc]; exact hy)
          refine ⟨⟨okn_strs aL 11, rfl⟩, ?_⟩
          have dl : ∀ L : List Str, deq μ (.lst (L.map D.str)) (.lst []) = decide (L = []) := fun L => by
            unfold deq
            show PyData.eqv (D.py 12 (.lst (L.map D.str))) (D.py 12 (.lst [])) = _
            simp only [D.py, PyData.eqv, List.map_nil]
            cases L with
            | nil => simp [PyData.eqvAll]
            | cons l L => simp [PyData.eqvAll]
          have kd : decide ((((c :: l).map fun c => (⟨#[c]⟩ : Str)).filter fun t => !(t.cps.toList.all isAln)) = []) = (c :: l).all isAln := by
            rw [Bool.eq_iff_iff, decide_eq_true_iff]; exact key
          rw [dl, kd]
          refine FnEnd.here ?_
          rw [Bool.true_and] at q
          exact q
    · rw [decide_eq_true (by rw [hl]; omega)]
      rw [decide_eq_false h6] at q
      exact FnEnd.here (by simpa using q)
end DV
local macro_rules | `(tactic| walk_at "dv") => `(tactic| try simp only [DV.dSeq, DV.dIf, DV.dOrT, DV.dAndT, DV.dNotT, DV.dTest, DV.dChain, DV.dC, DV.dCall, DV.gLen, DV.dCons, DV.dVar, DV.dNil, DV.dBin, DV.dUn, DV.gNeg, DV.gIn, DV.gIx, DV.dRet, DV.dRetN, DV.dNext, DV.dFor, DV.dIter, DV.dName, DV.lk, DV.dAsg, DV.dDrop, DV.gLst, DV.gTup, DV.gLstM, DV.gAdd, DV.gI, DV.gMod, DV.gMul, DV.gFdiv, DV.gPow, DV.gAbs, DV.gInt, DV.gList, DV.gTuple, DV.dOp, DV.dOpK, DV.dIsi, DV.tyD, DV.gIs, DV.gIsNot, DV.D.isN, DV.dJoin, DV.dCellM, DV.dSetI, DV.dSlice, DV.dPart, DV.dNoPart, DV.dRevA, DV.dFin, DV.dAugI, DV.dComp, DV.wipeG, DV.cName, DV.cPair, DV.dYes, DV.dRange1, DV.dRange2, DV.dAnd, DV.dOr, DV.dNot, DV.dIfE, DV.gEq, DV.gNe, DV.sgn_one, DV.atI_zero, DV.dTruth, DV.truD, DV.dBreak, DV.dCont, DV.gSorted, DV.dSortK, DV.dRevT, DV.gInD, DV.gIsB, DV.gStr, DV.dPop0, DV.dDict, DV.dPairs, DV.keysD, DV.keyOfD, DV.dFinD, DV.dFld, DV.dSetF, DV.dMake, DV.dMethod, DV.dProp, DV.dOwnIx, DV.dNever, DV.dRaise, DV.dRaise0, DV.gMulM, DV.gAddM, DV.gMax2, DV.dPair, DV.gDGet, DV.dSetD, DV.dDict0, DV.dComp2, DV.dSortSC, DV.isIns, DV.insOf,
  List.getElem?_cons_zero, List.getElem?_cons_succ, List.set_cons_zero, List.set_cons_succ, List.map_cons, List.map_nil, List.length_cons, List.length_nil, List.replicate, Nat.sub_self, List.append_nil, List.cons_append, List.nil_append, DV.start0, if_true, if_false, Bool.not_true, Bool.not_false, Bool.false_eq_true, Bool.true_and, Bool.and_true, Bool.or_true, Bool.true_or, Bool.false_or, Bool.or_false, eq_self_iff_true, not_true_eq_false, not_false_eq_true, ite_true, ite_false, cond_true, cond_false])
namespace DV
open PySem PySem.Spec PyProof.Rows L2
end DV
namespace DV
open PySem PySem.Spec PyProof.Rows L2
end DV
namespace DV
open PySem PySem.Spec PyProof.Rows L2
end DV
namespace DV
open PySem PySem.Spec PyProof.Rows L2
end DV
/-! str(x) by an own __str__ that lets nothing out. -/
namespace DV
open PySem PySem.Spec PyProof.Rows L2
end DV
namespace DV
open PySem PySem.Spec PyProof.Rows L2
/-! put: a table put into a table -/
end DV
namespace DV
open PySem PySem.Spec PyProof.Rows L2
theorem GB.asc {W : List Str} {n : Nat} {g : List (List Str)} (h : GB W n g) (hW : ∀ x ∈ W, validN x = true) : ∀ r ∈ g, ∀ x ∈ r, DV.asc x := fun r hr x hx => (valid_asc (hW x (h.mem r hr x hx))).1
end DV
namespace DV
open PySem PySem.Spec PyProof.Rows L2
/-! put as the law makes it -/
end DV
namespace DV
open PySem PySem.Spec PyProof.Rows L2
/-! a firm table put into a firm one is firm -/
end DV
/-! for (a, b, c) in triples -/
namespace DV
open PySem PySem.Spec PyProof.Rows L2
end DV
namespace DV
open PySem PySem.Spec PyProof.Rows L2
/-! k65: the parts of the law -/
end DV
namespace DV
open PySem PySem.Spec PyProof.Rows L2
end DV
namespace DV
open PySem PySem.Spec PyProof.Rows L2
/-! the table of a power -/
end DV
namespace DV
open PySem PySem.Spec PyProof.Rows L2
/-! any value, asked with a list of names -/
end DV
namespace DV
open PySem PySem.Spec PyProof.Rows L2
theorem lenL {S : List Nat} : ∀ ts : List (List Nat), (TL.joinL S ts).length ≤ (ts.map (·.length)).sum + ts.length * S.length
  | [] => by simp [TL.joinL]
  | [t] => by simp [TL.joinL]
  | t :: u :: ts => by
    have := lenL (S := S) (u :: ts)
    rw [TL.joinL]
    simp only [List.length_append, List.map_cons, List.sum_cons, List.length_cons, Nat.add_mul] at *
    omega
end DV
namespace DV
open PySem PySem.Spec PyProof.Rows L2
end DV
local macro_rules | `(tactic| walk_at "dv") => `(tactic| try simp only [DV.dSeq, DV.dIf, DV.dOrT, DV.dAndT, DV.dNotT, DV.dTest, DV.dChain, DV.dC, DV.dCall, DV.gLen, DV.dCons, DV.dVar, DV.dNil, DV.dBin, DV.dUn, DV.gNeg, DV.gIn, DV.gIx, DV.dRet, DV.dRetN, DV.dNext, DV.dFor, DV.dIter, DV.dName, DV.lk, DV.dAsg, DV.dDrop, DV.gLst, DV.gTup, DV.gLstM, DV.gAdd, DV.gI, DV.gMod, DV.gMul, DV.gFdiv, DV.gPow, DV.gAbs, DV.gInt, DV.gList, DV.gTuple, DV.dOp, DV.dOpK, DV.dIsi, DV.tyD, DV.gIs, DV.gIsNot, DV.D.isN, DV.dJoin, DV.dCellM, DV.dSetI, DV.dSlice, DV.dPart, DV.dNoPart, DV.dRevA, DV.dFin, DV.dAugI, DV.dComp, DV.wipeG, DV.cName, DV.cPair, DV.dYes, DV.dRange1, DV.dRange2, DV.dAnd, DV.dOr, DV.dNot, DV.dIfE, DV.gEq, DV.gNe, DV.sgn_one, DV.atI_zero, DV.dTruth, DV.truD, DV.dBreak, DV.dCont, DV.gSorted, DV.dSortK, DV.dRevT, DV.gInD, DV.gIsB, DV.gStr, DV.dPop0, DV.dDict, DV.dPairs, DV.keysD, DV.keyOfD, DV.dFinD, DV.dFld, DV.dSetF, DV.dMake, DV.dMethod, DV.dProp, DV.dOwnIx, DV.dNever, DV.gMulM, DV.gAddM, DV.gMax2, DV.dPair, DV.gDGet, DV.dSetD, DV.dDict0, DV.dComp2, DV.dSortSC, DV.isIns, DV.insOf,
  List.getElem?_cons_zero, List.getElem?_cons_succ, List.set_cons_zero, List.set_cons_succ, List.map_cons, List.map_nil, List.length_cons, List.length_nil, List.replicate, Nat.sub_self, List.append_nil, List.cons_append, List.nil_append, DV.start0, if_true, if_false, Bool.not_true, Bool.not_false, Bool.false_eq_true, Bool.true_and, Bool.and_true, Bool.or_true, Bool.true_or, Bool.false_or, Bool.or_false, eq_self_iff_true, not_true_eq_false, not_false_eq_true, ite_true, ite_false, cond_true, cond_false])
namespace DV
open PySem PySem.Spec PyProof.Rows L2
end DV
/-! != of two lists of one length, looking through cells. -/
namespace DV
open PySem PySem.Spec PyProof.Rows L2
open PySem.W (EqTree)
section
variable {X : Cx}
def rNeVL (K : PySem.W.Frag) : R2 := fun x y H Q => ∃ xs ys b, xs.length = ys.length ∧ Fr K H 12 x (.lst xs) ∧ Fr K H 12 y (.lst ys) ∧ deqW 12 (.lst xs) (.lst ys) = some b ∧ Q (.bl (!b)) H
theorem op_neVL (hu : X.A.units + 64 < cLine) : OpR X (compareOp .NotEq) (rNeVL X.K) := by
  intro pins s σ H x y v u Q I rx ry hq
  obtain ⟨xs, ys, b, hl, r1, r2, h, q⟩ := hq
  unfold deqW at h
  cases ho : (D.okn (11 + 1) (.lst xs) && D.okn (11 + 1) (.lst ys)) with
  | true =>
    rw [ho] at h
    rw [Bool.and_eq_true] at ho
    cases h
    exact op_neD hu pins s σ H x y v u Q I rx ry ⟨_, _, Fr.dp 12 _ _ r1 ho.1, Fr.dp 12 _ _ r2 ho.2, shaped_py ho.1, shaped_py ho.2, q⟩
  | false =>
    rw [ho] at h
    simp only [cond_false] at h
    have fin : EP X pins σ Q (.bool (!b)) s := ⟨.bl (!b), H, I, rfl, q⟩
    rw [if_neg (fun z => z.1 rfl)] at h
    obtain ⟨a, vs, rfl, e1, t1⟩ := r1
    obtain ⟨a', vs', rfl, e2, t2⟩ := r2
    cases rx; cases ry
    obtain ⟨its, w1, p1, _⟩ := I.list (.inl (.inl e1))
    obtain ⟨its', w2, p2, _⟩ := I.list (.inl (.inl e2))
    rw [if_pos hl] at h
    have h' : allT (deqW 11) (xs.take (min xs.length ys.length)) (ys.take (min xs.length ys.length)) = some b := by
      rw [← hl, Nat.min_self, List.take_length, hl, List.take_length]; exact h
    obtain ⟨z1, z2, z3, z4⟩ := ftree_items t1 t2 w1 w2 rfl h' (deqW_tree I 11)
    refine SeqAt.dv_rcNe_lists p1.isList p2.isList (by rw [z1, z2, hl]) (by omega) (fun j h1 h2 => (z3 j h1 h2).at X.A.in1 (by show X.A.units + 1 + _ < cLine; omega)) ?_
    rw [z4, ← hl, Nat.min_self, ← z1] at fin
    exact fin
/-- != of two lists of one length, looking through cells -/
def gNeVL : G2 := fun x y μ Q => goodF 12 (frz μ 12 x) = true ∧ goodF 12 (frz μ 12 y) = true ∧ ∃ xs ys b, frz μ 12 x = .lst xs ∧ frz μ 12 y = .lst ys ∧ xs.length = ys.length ∧ deqW 12 (frz μ 12 x) (frz μ 12 y) = some b ∧ Q (.bl (!b)) μ
theorem op_gNeVL {K : PySem.W.Frag} : Op2 K (rNeVL K) gNeVL := fun n μ x y dx dy Qd Q s rx ry ⟨g1, g2, xs, ys, b, e1, e2, hl, h, q⟩ l =>
  ⟨xs, ys, b, hl, e1 ▸ fr_frz s 12 _ _ rx g1, e2 ▸ fr_frz s 12 _ _ ry g2, e1 ▸ e2 ▸ h, l.now s (.bl _) q⟩
variable {W : WX} {a b : Expr} {pos : Pos} {fa fb : DTE}
theorem dt_neVL (hu : X.A.units + 64 < cLine) (ha : DE X W a fa) (hb : DE X W b fb) : DT X W (.Compare a [.NotEq] [b] pos) (dTest (dBin gNeVL fa fb)) := dt_cmp (op_neVL hu) op_gNeVL ha hb (nomark _)
end
end DV
namespace DV
open PySem PySem.Spec PyProof.Rows L2
/-! what Power(pool, piles) answers -/
/-- the order of some items, told as a list that can be changed -/
def S_orderC : DSp := fun ds μ Q _ => ∃ l c d xs, ds = [.ref l, d] ∧ μ[l]? = some (.orc (c, true)) ∧ (lk μ d = .lst xs ∨ lk μ d = .tup xs) ∧ xs.length ≤ 100 ∧ xs.length ≤ c ∧ D.puL xs = true ∧ ∀ c' ys, c ≤ c' + xs.length → ys.Perm xs → Q (.ref μ.length) (M μ l c' ++ [.lst ys])
theorem rd_orderC {n1 n2 n3 n4 n5 : Str} : ∀ ds μ Q E, S_orderC ds μ Q E → t_order (dFn μ Q E) (start0 [n1, n2, n3, n4, n5] ds) μ := by
  rintro _ μ Q E ⟨l, c, d, xs, rfl, ho, hd, hl, hc, hpu, q⟩
  have hlt := orc_lt ho
  have e2 : ∀ Q', gList false [d] μ Q' = Q' (.ref μ.length) (μ ++ [.lst xs]) := fun Q' => by
    unfold gList; dsimp only
    rcases hd with e | e <;> rw [e] <;> rfl
  unfold t_order
  simp only [dSeq, dAsg, dCall, dCons, dNil, dVar, start0, List.map_cons, List.map_nil, List.length_cons, List.length_nil, List.replicate, List.cons_append, List.nil_append, List.getElem?_cons_zero, List.getElem?_cons_succ, e2, dName, List.set_cons_succ, List.set_cons_zero, gLstM, dFor, dRange1]
  refine ⟨by rw [sizeLine_eq]; decide, ?_⟩
  have eM : μ = M μ l c := (M_id ho).symm
  have g2 : ∀ Q' : D → Mu → Prop, gLen [.ref μ.length] (μ ++ [.lst xs] ++ [.lst []]) Q' = Q' (.int xs.length) (μ ++ [.lst xs] ++ [.lst []]) := fun Q' => by
    unfold gLen; dsimp only; rw [lk_cell (by rw [List.append_assoc]; exact get_a0)]
  rw [g2]
  refine ⟨by omega, ?_⟩
  have start : μ ++ [Cell.lst xs] ++ [.lst []] = M μ l c ++ [.lst xs, .lst []] := by rw [← eM]; simp
  rw [start, show (μ ++ [Cell.lst xs]).length = μ.length + 1 from by simp]
  refine loop_inv (src := none) (fun i Γ μ' => ∃ c' left told a, c ≤ c' + i ∧ (told ++ left).Perm xs ∧ told.length = i ∧ Γ = [some (.ref l), some d, some (.ref μ.length), some (.ref (μ.length + 1)), a] ∧ μ' = M μ l c' ++ [.lst left, .lst told]) ⟨c, xs, [], none, by omega, by simp, rfl, rfl, rfl⟩ ?_ ?_
  · rintro i d' Γ μ' hd' ⟨c', left, told, a, h1, h2, h3, rfl, rfl⟩
    obtain ⟨hi, rfl⟩ := irng_get hd'
    refine ⟨trivial, fun Kn kn => ?_⟩
    have hlen := h2.length_eq
    simp only [List.length_append] at hlen
    have hi2 : i < xs.length := by simpa using hi
    simp only [dName, dDrop, dCellM, dCons, dNil, dVar, dOp, dCall, gLen, List.set_cons_succ, List.set_cons_zero, List.getElem?_cons_zero, List.getElem?_cons_succ, mg1, mg0, lk_cell (mg0 (μ := μ) (l := l) (c := c') (x := .lst left) (r := [.lst told]))]
    refine draw_E hlt (by omega) (by omega) (by omega) fun t g2 g3 => ?_
    obtain ⟨y, hy, hp⟩ := pop_at g2 g3 (by omega)
    simp only [mg0, mg1, hp, ms0]
    rw [append_at (by omega)]
    simp only [ms1]
    refine kn _ _ ⟨c' - 1, _, told ++ [y], _, by omega, ?_, by simp; omega, rfl, rfl⟩
    rw [List.append_assoc]
    exact ((perm_pop hy).append_left told).trans h2
  · rintro Γ μ' ⟨c', left, told, a, h1, h2, h3, rfl, rfl⟩
    rw [irng_len] at h1 h3
    have hlen := h2.length_eq
    simp only [List.length_append] at hlen
    have hle : left = [] := List.eq_nil_of_length_eq_zero (by omega)
    subst hle
    rw [List.append_nil] at h2
    refine ⟨trivial, ?_⟩
    simp only [dRet, dVar, List.getElem?_cons_zero, List.getElem?_cons_succ]
    have h1 : c ≤ c' + xs.length := by simpa using h1
    refine .inr ⟨M μ l c', [.lst [], .lst told], rfl, M_upd, .inr (.inr (.inl ⟨1, told, by rw [M_len], rfl, ?_, ?_⟩))⟩
    · rw [puL_iff] at hpu ⊢
      exact fun x hx => hpu x (h2.mem_iff.mp hx)
    · rw [M_len]; exact q c' told h1 h2
def S_order24 : DSp := fun ds μ Q E => S_order ds μ Q E ∨ S_orderC ds μ Q E
theorem rd_order24 {n1 n2 n3 n4 n5 : Str} : ∀ ds μ Q E, S_order24 ds μ Q E → t_order (dFn μ Q E) (start0 [n1, n2, n3, n4, n5] ds) μ := by
  rintro ds μ Q E (h | h)
  · exact rd_order _ _ _ _ h
  · exact rd_orderC _ _ _ _ h
end DV
namespace DV
open PySem PySem.Spec PyProof.Rows L2
def uV (v : Str → D) : Str → Int := fun x => match v x with | .int i => i | _ => 0
theorem init_none {ks : List Str} {v : Str → D} (h : initX ks v = none) (hnd : ks.Nodup) : NOk ks ∧ ∀ x ∈ ks, v x = .int (uV v x) := by
  have pm := sortS_perm ks
  unfold initX at h
  split at h
  · rename_i hl
    split at h
    · cases h
    · rename_i hf
      rw [Option.map_eq_none_iff] at h
      refine ⟨⟨hnd, hl.1, hl.2, fun x hx => ?_⟩, fun x hx => ?_⟩
      · have := List.find?_eq_none.mp hf x (pm.mem_iff.mpr hx)
        simpa using this
      · have := List.find?_eq_none.mp h x (pm.mem_iff.mpr hx)
        have hi : isInt (v x) = true := by simpa using this
        unfold uV
        cases e : v x <;> rw [e] at hi <;> first | rfl | cases hi
  · cases h
theorem init_some {ks : List Str} {v : Str → D} {x : Exn} (h : initX ks v = some x) : (¬ (1 ≤ ks.length ∧ ks.length ≤ 6) ∧ x = ⟨.BadCount, [("count", .int (ks.length : Int))]⟩) ∨
    ((1 ≤ ks.length ∧ ks.length ≤ 6) ∧ ∃ y, (sortS ks).find? (fun x => !validN x) = some y ∧ x = ⟨.BadName, [("name", .str y)]⟩) ∨
    ((1 ≤ ks.length ∧ ks.length ≤ 6) ∧ (sortS ks).find? (fun x => !validN x) = none ∧ ∃ y, (sortS ks).find? (fun x => !isInt (v x)) = some y ∧ x = ⟨.BadWish, [("value", v y)]⟩) := by
  unfold initX at h
  split at h
  · rename_i hl
    split at h
    · rename_i y hf
      cases h
      exact .inr (.inl ⟨hl, y, hf, rfl⟩)
    · rename_i hf
      rw [Option.map_eq_some_iff] at h
      obtain ⟨y, h1, rfl⟩ := h
      exact .inr (.inr ⟨hl, hf, y, h1, rfl⟩)
  · rename_i hl
    cases h
    exact .inl ⟨hl, rfl⟩
structure GOk (ks : List Str) (v : Str → D) : Prop where
  nd : ks.Nodup
  l : ks.length < 64
  z : ∀ x ∈ ks, x.length ≤ 1000 ∧ asc x ∧ ∀ c ∈ x.cps.toList, asc ⟨#[c]⟩
  v : ∀ x ∈ ks, okV (v x)
theorem make_wishE {C : Cs} {μ : Mu} {d : D} {ks : List Str} {v : Str → D} {Q : D → Mu → Prop} {E : Exn → Mu → Prop} (hd : ∀ loc, lk (μ ++ loc) d = .dct (gL ks v)) (hk : GOk ks v)
    (ex : ∀ x, initX ks v = some x → D.puF x.fs = true → E x μ) (q : initX ks v = none → Q (wD C (sortS ks) (uV v)) μ) :
    S_W_initE C (.ref μ.length :: [d]) (μ ++ [.ins C.W []]) (fun r μ2 => r = .non ∧ ∃ e loc μ3, μ2 = μ3 ++ loc ∧ Upd μ μ3 ∧ Fz μ3.length (μ3 ++ loc) (.ref μ.length) e ∧ Q e μ3) (fun x μ2 => ∃ loc μ3, μ2 = μ3 ++ loc ∧ Upd μ μ3 ∧ D.puF x.fs = true ∧ E x μ3) := by
  refine ⟨μ, d, ks, v, rfl, rfl, hd, hk.nd, hk.l, fun x hx => (hk.z x hx).1, hk.v, fun x c hx => ?_, fun hn => ?_⟩
  · have hp : D.puF x.fs = true := by
      rcases init_some hx with ⟨-, rfl⟩ | ⟨-, y, -, rfl⟩ | ⟨-, -, y, hy, rfl⟩
      · rfl
      · rfl
      · show ((v y).pu && true) = true
        rw [(hk.v y ((sortS_perm ks).mem_iff.mp (List.mem_of_find?_eq_some hy))).pu]; rfl
    exact ⟨[c], μ, rfl, Upd.refl μ, hp, ex x hx hp⟩
  · obtain ⟨hN, hI⟩ := init_none hn hk.nd
    have hg : gL (sortS ks) v = lkL (sortS ks) (uV v) := g_lk fun x hx => hI x ((sortS_perm ks).mem_iff.mp hx)
    rw [hg]
    refine ⟨rfl, wD C (sortS ks) (uV v), _, μ, rfl, Upd.refl μ, ?_, q hn⟩
    have e0 : (μ ++ [Cell.ins C.W [((Str.ofString "likes" : Str), D.ref (μ.length + 1))], Cell.dct (lkL (sortS ks) (uV v))])[μ.length]? = some (.ins C.W [("likes", .ref (μ.length + 1))]) := get_a0
    have e1 : (μ ++ [Cell.ins C.W [((Str.ofString "likes" : Str), D.ref (μ.length + 1))], Cell.dct (lkL (sortS ks) (uV v))])[μ.length + 1]? = some (.dct (lkL (sortS ks) (uV v))) := get_a1
    have hp := pu_lk (sortS ks) (uV v)
    rw [puK_eq] at hp
    have f1 := Fz.dcell (m := μ.length) (by omega) e1 (fz_pu hp)
    have ez : ((lkL (sortS ks) (uV v)).map (·.1)).zip ((lkL (sortS ks) (uV v)).map (·.2)) = lkL (sortS ks) (uV v) := zip_maps _ _ rfl
    rw [ez] at f1
    exact Fz.icell (m := μ.length) (Nat.le_refl _) e0 (.cons f1 .nil)
/-! what is told -/
def isB : D → Bool
  | .bl _ => true
  | _ => false
theorem okV.isb {d : D} (h : okV d) : ∃ t, tyD d = some t ∧ t.sub .bool = isB d := h.cases (P := fun d => ∃ t, tyD d = some t ∧ t.sub .bool = isB d) (fun _ => ⟨_, rfl, rfl⟩) ⟨_, rfl, rfl⟩ ⟨_, rfl, rfl⟩ ⟨_, rfl, rfl⟩ ⟨_, rfl, rfl⟩ ⟨_, rfl, rfl⟩ ⟨_, rfl, rfl⟩ ⟨_, rfl, rfl⟩
def res3 (ks : List Str) (v : Str → D) (kvs : List (Key × D)) : D :=
  if 1 ≤ ks.length ∧ ks.length ≤ 6 then
    match (sortS ks).find? (fun x => !validN x) with
    | some x => .lst [.str (Str.ofString "name"), .str x]
    | none => match (sortS ks).find? (fun x => !isInt (v x)) with
      | some x => .lst [.str (Str.ofString "wish"), v x, .bl (isB (v x))]
      | none => .lst [.str (Str.ofString "wishes"), tupS (sortS ks), .dct kvs]
  else .lst [.str (Str.ofString "count"), .int (ks.length : Int)]
def S_l_odd3 : DSp := fun ds μ Q _ => ∃ l c, ds = [.ref l] ∧ μ[l]? = some (.orc (c, true)) ∧ 1 ≤ c ∧ ∀ d, d ∈ oddL → Q d (M μ l (c - 1))
def t_l_odd3 : DTS := dRet (dBin gIx (dCall gLst (dCons (dC (.bl true)) (dCons (dC .non) (dCons (dC (.str "3")) (dCons (dCall gTup (dNil)) (dCons (dC (.bl false)) (dCons (dCall gLst (dCons (dC (.int 1)) (dNil))) (dCons (dC (.str "")) (dNil))))))))) (dOp S_draw (dCons (dVar 0) (dCons (dC (.int 7)) (dNil)))))
theorem rd_l_odd3 {n1 : Str} : ∀ ds μ Q E, S_l_odd3 ds μ Q E → t_l_odd3 (dFn μ Q E) (start0 [n1] ds) μ := by
  rintro _ μ Q E ⟨l, c, rfl, ho, hc, q⟩
  have hl := orc_lt ho
  unfold t_l_odd3
  simp only [dRet, dBin, dOp, dCall, dCons, dNil, dC, dVar, gLst, gTup, start0, List.map_cons, List.map_nil, List.length_cons, List.length_nil, List.replicate, List.cons_append, List.nil_append, List.getElem?_cons_zero, List.getElem?_cons_succ]
  refine ⟨by decide, ⟨by rw [sizeLine_eq]; simp, ⟨by rw [sizeLine_eq]; simp, ?_⟩⟩⟩
  obtain ⟨k, rfl⟩ : ∃ k, c = k + 1 := ⟨c - 1, by omega⟩
  refine ⟨l, k, 7, rfl, ho, by omega, by decide, fun t t0 t1 => ?_⟩
  have ee : μ.set l (.orc (k, true)) = M μ l (k + 1 - 1) := by rw [Nat.add_sub_cancel]; rfl
  rw [ee]
  have hget : ∃ d, oddL[t.toNat]? = some d ∧ d ∈ oddL := by
    have : t.toNat < oddL.length := by show t.toNat < 7; omega
    exact ⟨oddL[t.toNat], List.getElem?_eq_getElem this, List.getElem_mem this⟩
  obtain ⟨d, hd, hm⟩ := hget
  have hix : ∀ Q' : D → Mu → Prop, gIx (.lst oddL) (.int t) (M μ l (k + 1 - 1)) Q' = Q' d (M μ l (k + 1 - 1)) := fun Q' => by unfold gIx; simp only [lk]; rw [atI_nat' t0 hd]
  show gIx (.lst oddL) (.int t) _ _
  rw [hix]
  exact FnEnd.pure0 M_upd (okV.pu (.inr hm)) (q d hm)
def S_l_made3 (C : Cs) : DSp := fun ds μ Q _ => ∃ d ks v, ds = [d] ∧ (∀ loc, lk (μ ++ loc) d = .dct (gL ks v)) ∧ GOk ks v ∧ Q (res3 ks v (gL (sortS ks) v)) μ
def t_l_made3 (C : Cs) : DTS := dTry [.BadName, .DuplicateName, .UnknownName, .BadCount, .BadWish] (dSeq (dAsg (dMakeM C.W (S_W_initE C) (dCons (dVar 0) (dNil))) (dName 1)) (dRet (dCall gLst (dCons (dC (.str "wishes")) (dCons (dProp C.W (S_W_outcomes C) (dVar 1)) (dCons (dMethod C.W "amounts" (S_W_amountsC C) (dVar 1) dNil) (dNil))))))) [⟨.BadCount, some 2, fun a dd l => dRet (dCall gLst (dCons (dC (.str "count")) (dCons (dXf a dd l "count" (dVar 2)) (dNil))))⟩, ⟨.BadName, some 2, fun a dd l => dRet (dCall gLst (dCons (dC (.str "name")) (dCons (dXf a dd l "name" (dVar 2)) (dNil))))⟩, ⟨.BadWish, some 2, fun a dd l => dRet (dCall gLst (dCons (dC (.str "wish")) (dCons (dXf a dd l "value" (dVar 2)) (dCons (dIsi .bool (dXf a dd l "value" (dVar 2))) (dNil)))))⟩]
theorem rd_l_made3 {C : Cs} {n1 n2 n3 : Str} : ∀ ds μ Q E, S_l_made3 C ds μ Q E → t_l_made3 C (dFn μ Q E) (start0 [n1, n2, n3] ds) μ := by
  rintro _ μ Q E ⟨d, ks, v, rfl, hd, hk, q⟩
  unfold t_l_made3
  rw [dTry]
  rw [dSeq]
  simp only [dAsg, dMakeM, dCons, dNil, dVar, start0, List.map_cons, List.map_nil, List.length_cons, List.length_nil, List.replicate, List.cons_append, List.nil_append, List.getElem?_cons_zero, List.getElem?_cons_succ]
  refine make_wishE hd hk (fun x hx hp => ?_) fun hn => ?_
  · unfold res3 at q
    rcases init_some hx with ⟨h0, rfl⟩ | ⟨h0, y, hy, rfl⟩ | ⟨h0, hv, y, hy, rfl⟩
    · rw [if_neg h0] at q
      refine hnd_hit (by decide) ?_
      refine ⟨by simp, fun a dd => ?_⟩
      simp only [dRet, dCall, dCons, dNil, dC, dXf, dVar, List.set_cons_zero, List.set_cons_succ, List.getElem?_cons_zero, List.getElem?_cons_succ, get_a0, List.lookup_cons, beq_self_eq_true, gLst]
      exact ⟨trivial, trivial, sz2, FnEnd.pure (Upd.refl μ) (by rfl) q⟩
    · rw [if_pos h0, hy] at q
      refine hnd_miss (by decide) (by decide) (by decide) (hnd_hit (by decide) ?_)
      refine ⟨by simp, fun a dd => ?_⟩
      simp only [dRet, dCall, dCons, dNil, dC, dXf, dVar, List.set_cons_zero, List.set_cons_succ, List.getElem?_cons_zero, List.getElem?_cons_succ, get_a0, List.lookup_cons, beq_self_eq_true, gLst]
      exact ⟨trivial, trivial, sz2, FnEnd.pure (Upd.refl μ) (by rfl) q⟩
    · rw [if_pos h0, hv] at q
      dsimp only at q
      rw [hy] at q
      have hw := hk.v y ((sortS_perm ks).mem_iff.mp (List.mem_of_find?_eq_some hy))
      refine hnd_miss (by decide) (by decide) (by decide) (hnd_miss (by decide) (by decide) (by decide) (hnd_hit (by decide) ?_))
      refine ⟨by simp, fun a dd => ?_⟩
      obtain ⟨t, ht, hb⟩ := hw.isb
      simp only [dRet, dCall, dCons, dNil, dC, dXf, dIsi, dVar, List.set_cons_zero, List.set_cons_succ, List.getElem?_cons_zero, List.getElem?_cons_succ, get_a0, List.lookup_cons, beq_self_eq_true, gLst]
      refine ⟨trivial, trivial, trivial, trivial, ?_⟩
      rw [(hw.ty _).1, ht]
      dsimp only
      rw [hb]
      refine ⟨by rw [sizeLine_eq]; simp, FnEnd.pure (Upd.refl μ) ?_ q⟩
      show (true && ((v y).pu && (true && true))) = true
      rw [hw.pu]; rfl
  · obtain ⟨hN, hI⟩ := init_none hn hk.nd
    have h1 := hN.l1
    have h6 := hN.l6
    have hg : gL (sortS ks) v = lkL (sortS ks) (uV v) := g_lk fun x hx => hI x ((sortS_perm ks).mem_iff.mp hx)
    unfold res3 at q
    unfold initX at hn
    rw [if_pos ⟨h1, h6⟩] at q hn
    split at hn
    · cases hn
    · rename_i hf
      rw [Option.map_eq_none_iff] at hn
      rw [hf] at q
      dsimp only at q
      rw [hn] at q
      dsimp only at q
      rw [hg] at q
      simp only [dName, List.set_cons_zero, List.set_cons_succ, dRet, dCall, dProp, dMethod, dCons, dNil, dC, dVar, List.getElem?_cons_zero, List.getElem?_cons_succ]
      refine ⟨rfl, sortS ks, uV v, rfl, w_own (by decide +kernel), sortS ks, uV v, rfl, .inl ?_⟩
      simp only [gLst]
      exact ⟨by rw [sizeLine_eq]; simp, FnEnd.here q⟩
def S_l_due3 : DSp := fun ds μ Q _ => ∃ ks v, ds = [.dct (gL ks v)] ∧ GOk ks v ∧ Q (res3 ks v (gL ks v)) μ
def t_l_due3 : DTS := dSeq (dAsg (dCall (gSortedD true) (dCons (dVar 0) dNil)) (dName 1)) (dSeq (dIf (dOrT (dTest (dBin (gI fun i j => .bl (decide (i < j))) (dCall gLen (dCons (dVar 1) dNil)) (dC (.int 1)))) (dTest (dBin (gI fun i j => .bl (decide (j < i))) (dCall gLen (dCons (dVar 1) dNil)) (dC (.int 6))))) (dRet (dCall gLst (dCons (dC (.str "count")) (dCons (dCall gLen (dCons (dVar 1) dNil)) (dNil))))) (dNext)) (dSeq (dFor (dIter (dVar 1)) (dName 2) (dIf (dNotT (dTest (dOp S_l_good24 (dCons (dVar 2) (dNil))))) (dRet (dCall gLst (dCons (dC (.str "name")) (dCons (dVar 2) (dNil))))) (dNext))) (dSeq (dFor (dIter (dVar 1)) (dName 2) (dIf (dOrT (dNotT (dTest (dIsi .int (dBin gDGet (dVar 0) (dVar 2))))) (dTest (dIsi .bool (dBin gDGet (dVar 0) (dVar 2))))) (dRet (dCall gLst (dCons (dC (.str "wish")) (dCons (dBin gDGet (dVar 0) (dVar 2)) (dCons (dIsi .bool (dBin gDGet (dVar 0) (dVar 2))) (dNil)))))) (dNext))) (dRet (dCall gLst (dCons (dC (.str "wishes")) (dCons (dCall gTuple (dCons (dVar 1) dNil)) (dCons (dVar 0) (dNil)))))))))
theorem rd_l_due3 {n1 n2 n3 : Str} : ∀ ds μ Q E, S_l_due3 ds μ Q E → t_l_due3 (dFn μ Q E) (start0 [n1, n2, n3] ds) μ := by
  rintro _ μ Q E ⟨ks, v, rfl, hk, q⟩
  have pm := sortS_perm ks
  have sl := pm.length_eq
  have hkl := hk.l
  unfold res3 at q
  unfold t_l_due3
  rw [dSeq]
  simp only [dAsg, dCall, dCons, dNil, dVar, gSortedD, lk, keys_g, start0, List.map_cons, List.map_nil, List.length_cons, List.length_nil, List.replicate, List.cons_append, List.nil_append, List.getElem?_cons_zero, List.getElem?_cons_succ]
  refine ⟨hkl, ?_⟩
  simp only [dFin, dName, List.set_cons_zero, List.set_cons_succ]
  rw [dSeq]
  simp only [dIf, dOrT, dTest, dBin, dCall, dCons, dNil, dC, dVar, gLen, lk, gI, List.getElem?_cons_zero, List.getElem?_cons_succ, List.length_map, sl]
  have cnt : ∀ De : DEnds, De.rt = (dFn μ Q E).rt → ¬ (1 ≤ ks.length ∧ ks.length ≤ 6) → dRet (dCall gLst (dCons (dC (.str "count")) (dCons (dCall gLen (dCons (dVar 1) dNil)) (dNil)))) De [some (.dct (gL ks v)), some (.lst ((sortS ks).map .str)), none] μ := fun De he hn => by
    rw [if_neg hn] at q
    simp only [dRet, dCall, dCons, dNil, dC, dVar, gLen, lk, gLst, List.getElem?_cons_zero, List.getElem?_cons_succ, List.length_map, sl, he]
    exact ⟨sz2, FnEnd.here q⟩
  by_cases h1 : ks.length < 1
  · rw [decide_eq_true (by omega)]
    simp only [cond_true]
    exact cnt _ rfl (by omega)
  rw [decide_eq_false (by omega)]
  simp only [cond_false]
  by_cases h6 : 6 < ks.length
  · rw [decide_eq_true (by omega)]
    simp only [cond_true]
    exact cnt _ rfl (by omega)
  rw [decide_eq_false (by omega)]
  simp only [cond_false, dNext]
  clear cnt
  rw [if_pos (by omega)] at q
  rw [dSeq]
  simp only [dFor, dIter, dVar, List.getElem?_cons_zero, List.getElem?_cons_succ]
  refine loop_stop (src := none) (fun Γ => ∃ a2, Γ = [some (.dct (gL ks v)), some (.lst ((sortS ks).map .str)), a2]) D.str (fun x => !validN x) (fun x => Q (.lst [.str (Str.ofString "name"), .str x]) μ) trivial (sortS ks) _ ⟨_, rfl⟩ ?_ ?_ ?_
  · rintro x hx Γ ⟨a2, rfl⟩ Kn k1 k2
    have hz := hk.z x (pm.mem_iff.mp hx)
    simp only [dName, List.set_cons_succ, List.set_cons_zero, dIf, dNotT, dTest, dOp, dCons, dNil, dVar, List.getElem?_cons_zero, List.getElem?_cons_succ]
    refine ⟨x, rfl, hz.1, hz.2.2, ?_⟩
    cases hv : validN x with
    | true =>
      simp only [Bool.not_true, cond_false, dNext]
      exact k2 (by simp [hv]) _ ⟨_, rfl⟩
    | false =>
      simp only [Bool.not_false, cond_true, dRet, dCall, dCons, dNil, dC, dVar, gLst, List.getElem?_cons_zero, List.getElem?_cons_succ]
      exact ⟨sz2, FnEnd.here (k1 (by simp [hv]))⟩
  · intro x hx
    rw [hx] at q
    exact q
  rintro hno Γ ⟨a2, rfl⟩
  rw [hno] at q
  dsimp only at q
  try dsimp only
  rw [dSeq]
  simp only [dFor, dIter, dVar, List.getElem?_cons_zero, List.getElem?_cons_succ]
  refine loop_stop (src := none) (fun Γ => ∃ a2, Γ = [some (.dct (gL ks v)), some (.lst ((sortS ks).map .str)), a2]) D.str (fun x => !isInt (v x)) (fun x => Q (.lst [.str (Str.ofString "wish"), v x, .bl (isB (v x))]) μ) trivial (sortS ks) _ ⟨_, rfl⟩ ?_ ?_ ?_
  · rintro x hx Γ ⟨a2, rfl⟩ Kn k1 k2
    have hm := pm.mem_iff.mp hx
    obtain ⟨hl, t, ht, hi, hb⟩ := (hk.v x hm).ty μ
    obtain ⟨t2, ht2, hb2⟩ := (hk.v x hm).isb
    rw [ht] at ht2; cases ht2
    have get : ∀ Q', gDGet (.dct (gL ks v)) (.str x) μ Q' = Q' (v x) μ := fun Q' => by
      simp only [gDGet, lk, keyOfD, val_g]
      rw [if_pos hm]
    have R : ∀ De : DEnds, De.rt = (dFn μ Q E).rt → isInt (v x) = false → (dRet (dCall gLst (dCons (dC (.str "wish")) (dCons (dBin gDGet (dVar 0) (dVar 2)) (dCons (dIsi .bool (dBin gDGet (dVar 0) (dVar 2))) (dNil)))))) De [some (.dct (gL ks v)), some (.lst ((sortS ks).map .str)), some (.str x)] μ := fun De he hI => by
      simp only [dRet, dCall, dCons, dNil, dC, dBin, dIsi, dVar, gLst, List.getElem?_cons_zero, List.getElem?_cons_succ, get, hl, ht, he]
      rw [hb2]
      exact ⟨by rw [sizeLine_eq]; simp, FnEnd.here (k1 (by simp [hI]))⟩
    simp only [dName, List.set_cons_succ, List.set_cons_zero, dIf, dOrT, dNotT, dTest, dIsi, dBin, dVar, List.getElem?_cons_zero, List.getElem?_cons_succ, get, hl, ht]
    cases hI : isInt (v x) with
    | true =>
      have b0 := hb hI
      rw [hI] at hi
      rw [hi, b0]
      simp only [Bool.true_or, Bool.not_true, cond_false, dNext]
      exact k2 (by simp [hI]) _ ⟨_, rfl⟩
    | false =>
      rw [hI] at hi
      rw [hi]
      cases hbb : t.sub .bool with
      | true =>
        simp only [Bool.false_or, Bool.not_true, cond_false, cond_true]
        exact R _ rfl hI
      | false =>
        simp only [Bool.false_or, Bool.not_false, cond_true]
        exact R _ rfl hI
  · intro x hx
    rw [hx] at q
    exact q
  rintro hno2 Γ ⟨a2, rfl⟩
  rw [hno2] at q
  dsimp only at q
  simp only [dRet, dCall, dCons, dNil, dC, dVar, gTuple, lk, gLst, List.getElem?_cons_zero, List.getElem?_cons_succ]
  exact ⟨by rw [sizeLine_eq]; simp, FnEnd.here q⟩
end DV
namespace DV
open PySem PySem.Spec PyProof.Rows L2
theorem find_mem {ks ns : List Str} (h : ∀ x, x ∈ ns ↔ x ∈ ks) (xs : List Str) : xs.find? (fun x => decide (x ∉ ns)) = xs.find? (fun x => decide (x ∉ ks)) := by
  congr 1; funext x; exact decide_eq_decide.mpr (not_congr (h x))
def unkD (x : Str) : D := .lst [.str (Str.ofString "unknown"), .str x]
def told3_0 (ns : List Str) (u : Str → Int) (a : Str) : D := match [a].find? (fun x => decide (x ∉ ns)) with
  | some x => unkD x
  | none => .lst [.str (Str.ofString "amount"), .int (u a)]
def told3_1 (ns : List Str) (u : Str → Int) (a b : Str) : D := match [a, b].find? (fun x => decide (x ∉ ns)) with
  | some x => unkD x
  | none => .lst [.str (Str.ofString "prefers"), .bl (decide (u b < u a))]
def told3_2 (ns : List Str) (u : Str → Int) (xs : List Str) : D := if xs = [] then .lst [.str (Str.ofString "count"), .int 0] else match xs.find? (fun x => decide (x ∉ ns)) with
  | some x => unkD x
  | none => .lst [.str (Str.ofString "best"), tupS (bestL ns u xs)]
def plan3 (ns : List Str) (u : Str → Int) (p : Int) (d : D) (b : Str) (R : D → Prop) : Prop := (p = 0 ∧ ∃ a, d = .str a ∧ R (told3_0 ns u a)) ∨ (p = 1 ∧ ∃ a, d = .str a ∧ R (told3_1 ns u a b)) ∨ (p = 2 ∧ ∃ xs, (d = .lst (xs.map .str) ∨ d = tupS xs) ∧ xs.length ≤ 100 ∧ R (told3_2 ns u xs))
def S_l_told3 (C : Cs) : DSp := fun ds μ Q _ => ∃ ns u p d b, ds = [wD C ns u, .int p, d, .str b] ∧ ns.length ≤ 100 ∧ plan3 ns u p d b (fun r => Q r μ)
def t_l_told3 (C : Cs) : DTS := dTry [.BadName, .DuplicateName, .UnknownName, .BadCount, .BadWish] (dSeq (dIf (dTest (dBin gEq (dVar 1) (dC (.int 0)))) (dRet (dCall gLst (dCons (dC (.str "amount")) (dCons (dOwnIx C.W (S_W_item C) (dVar 0) (dVar 2)) (dNil))))) (dNext)) (dSeq (dIf (dTest (dBin gEq (dVar 1) (dC (.int 1)))) (dRet (dCall gLst (dCons (dC (.str "prefers")) (dCons (dMethod C.W "prefers" (S_W_prefersX C) (dVar 0) (dCons (dVar 2) (dCons (dVar 3) (dNil)))) (dNil))))) (dNext)) (dRet (dCall gLst (dCons (dC (.str "best")) (dCons (dMethod C.W "best" (S_W_best C) (dVar 0) (dCons (dVar 2) (dNil))) (dNil))))))) [⟨.UnknownName, some 4, fun a dd l => dRet (dCall gLst (dCons (dC (.str "unknown")) (dCons (dXf a dd l "name" (dVar 4)) (dNil))))⟩, ⟨.BadCount, some 4, fun a dd l => dRet (dCall gLst (dCons (dC (.str "count")) (dCons (dXf a dd l "count" (dVar 4)) (dNil))))⟩]
theorem rd_l_told3 {C : Cs} {n1 n2 n3 n4 n5 : Str} : ∀ ds μ Q E, S_l_told3 C ds μ Q E → t_l_told3 C (dFn μ Q E) (start0 [n1, n2, n3, n4, n5] ds) μ := by
  rintro _ μ Q E ⟨ns, u, p, d, b, rfl, hl, h⟩
  unfold t_l_told3
  rw [dTry]
  have unk : ∀ (x : Str), Q (unkD x) μ → dHandle [.BadName, .DuplicateName, .UnknownName, .BadCount, .BadWish] [⟨.UnknownName, some 4, fun a dd l => dRet (dCall gLst (dCons (dC (.str "unknown")) (dCons (dXf a dd l "name" (dVar 4)) (dNil))))⟩, ⟨.BadCount, some 4, fun a dd l => dRet (dCall gLst (dCons (dC (.str "count")) (dCons (dXf a dd l "count" (dVar 4)) (dNil))))⟩] (dFn μ Q E) ⟨.UnknownName, [("name", .str x)]⟩ [some (wD C ns u), some (.int p), some d, some (.str b), none] μ := fun x q => by
    refine hnd_hit (by decide) ?_
    refine ⟨by simp, fun a dd => ?_⟩
    simp only [dRet, dCall, dCons, dNil, dC, dXf, dVar, List.set_cons_zero, List.set_cons_succ, List.getElem?_cons_zero, List.getElem?_cons_succ, get_a0, List.lookup_cons, beq_self_eq_true, gLst]
    exact ⟨trivial, trivial, sz2, FnEnd.pure (Upd.refl μ) (by rfl) q⟩
  have cnt : Q (.lst [.str (Str.ofString "count"), .int 0]) μ → dHandle [.BadName, .DuplicateName, .UnknownName, .BadCount, .BadWish] [⟨.UnknownName, some 4, fun a dd l => dRet (dCall gLst (dCons (dC (.str "unknown")) (dCons (dXf a dd l "name" (dVar 4)) (dNil))))⟩, ⟨.BadCount, some 4, fun a dd l => dRet (dCall gLst (dCons (dC (.str "count")) (dCons (dXf a dd l "count" (dVar 4)) (dNil))))⟩] (dFn μ Q E) ⟨.BadCount, [("count", .int 0)]⟩ [some (wD C ns u), some (.int p), some d, some (.str b), none] μ := fun q => by
    refine hnd_miss (by decide) (by decide) (by decide) (hnd_hit (by decide) ?_)
    refine ⟨by simp, fun a dd => ?_⟩
    simp only [dRet, dCall, dCons, dNil, dC, dXf, dVar, List.set_cons_zero, List.set_cons_succ, List.getElem?_cons_zero, List.getElem?_cons_succ, get_a0, List.lookup_cons, beq_self_eq_true, gLst]
    exact ⟨trivial, trivial, sz2, FnEnd.pure (Upd.refl μ) (by rfl) q⟩
  simp only [start0, List.map_cons, List.map_nil, List.length_cons, List.length_nil, List.replicate, List.cons_append, List.nil_append]
  rcases h with ⟨rfl, a, rfl, q⟩ | ⟨rfl, a, rfl, q⟩ | ⟨rfl, xs, hd, hx, q⟩
  · refine seq_take rfl rfl ?_
    simp only [dRet, dCall, dOwnIx, dCons, dNil, dC, dVar, List.getElem?_cons_zero, List.getElem?_cons_succ]
    refine ⟨rfl, ns, u, a, rfl, fun hn => unk a ?_, fun hm => ?_⟩
    · unfold told3_0 at q
      rw [List.find?_cons_of_pos (by simpa using hn)] at q
      exact q
    · unfold told3_0 at q
      rw [List.find?_cons_of_neg (by simpa using hm)] at q
      simp only [gLst]
      exact ⟨sz2, FnEnd.here q⟩
  · refine seq_skip rfl (by decide) ?_
    refine seq_take rfl rfl ?_
    simp only [dRet, dCall, dMethod, dCons, dNil, dC, dVar, List.getElem?_cons_zero, List.getElem?_cons_succ]
    unfold told3_1 at q
    refine ⟨w_own (by decide +kernel), ns, u, a, b, rfl, fun x hx => unk x ?_, fun ha hb => ?_⟩
    · rw [hx] at q; exact q
    · rw [List.find?_cons_of_neg (by simpa using ha), List.find?_cons_of_neg (by simpa using hb)] at q
      simp only [gLst]
      exact ⟨sz2, FnEnd.here q⟩
  · refine seq_skip rfl (by decide) ?_
    refine seq_skip rfl (by decide) ?_
    simp only [dRet, dCall, dMethod, dCons, dNil, dC, dVar, List.getElem?_cons_zero, List.getElem?_cons_succ]
    unfold told3_2 at q
    refine ⟨w_own (by decide +kernel), ns, u, d, xs, rfl, hd, hx, hl, fun e => cnt ?_, fun x hf => unk x ?_, fun hne hin => ?_⟩
    · rw [if_pos e] at q; exact q
    · rw [if_neg (by rintro rfl; cases hf), hf] at q; exact q
    · rw [if_neg hne, List.find?_eq_none.mpr (fun x hx => by simp [hin x hx])] at q
      simp only [gLst]
      exact ⟨sz2, FnEnd.here q⟩
def S_l_tdue3 : DSp := fun ds μ Q _ => ∃ ks u p d b, ds = [.dct (lkL ks u), .int p, d, .str b] ∧ ks.length ≤ 50 ∧ plan3 (sortS ks) u p d b (fun r => Q r μ)
def t_l_tdue3 : DTS := dSeq (dIf (dAndT (dTest (dBin gEq (dVar 1) (dC (.int 2)))) (dTest (dBin gEq (dCall gLen (dCons (dVar 2) dNil)) (dC (.int 0))))) (dRet (dCall gLst (dCons (dC (.str "count")) (dCons (dC (.int 0)) (dNil))))) (dNext)) (dSeq (dAsg (dBin gIx (dCall gLst (dCons (dCall gLst (dCons (dVar 2) (dNil))) (dCons (dCall gLst (dCons (dVar 2) (dCons (dVar 3) (dNil)))) (dCons (dVar 2) (dNil))))) (dVar 1)) (dName 4)) (dSeq (dFor (dIter (dVar 4)) (dName 5) (dIf (dTest (dBin (gDIn true) (dVar 5) (dVar 0))) (dRet (dCall gLst (dCons (dC (.str "unknown")) (dCons (dVar 5) (dNil))))) (dNext))) (dSeq (dIf (dTest (dBin gEq (dVar 1) (dC (.int 0)))) (dRet (dCall gLst (dCons (dC (.str "amount")) (dCons (dBin gDGet (dVar 0) (dVar 2)) (dNil))))) (dNext)) (dSeq (dIf (dTest (dBin gEq (dVar 1) (dC (.int 1)))) (dRet (dCall gLst (dCons (dC (.str "prefers")) (dCons (dBin (gI fun i j => .bl (decide (j < i))) (dBin gDGet (dVar 0) (dVar 2)) (dBin gDGet (dVar 0) (dVar 3))) (dNil))))) (dNext)) (dSeq (dAsg (dCall gMaxL (dCons (dComp true [5] (dIter (dVar 2)) (cName 5) (dYes) (dBin gDGet (dVar 0) (dVar 5))) dNil)) (dName 6)) (dRet (dCall gLst (dCons (dC (.str "best")) (dCons (dCall gTuple (dCons (dComp true [5] (dIter (dCall (gSortedD true) (dCons (dVar 0) dNil))) (cName 5) (dAndT (dTest (dBin (gIn false) (dVar 5) (dVar 2))) (dTest (dBin gEq (dBin gDGet (dVar 0) (dVar 5)) (dVar 6)))) (dVar 5)) dNil)) (dNil))))))))))
theorem tdue3_loop {μ : Mu} {Q : D → Mu → Prop} {E : Exn → Mu → Prop} {ks : List Str} {u : Str → Int} {p : Int} {d b4 : D} {b : Str} {T : DTS} (xs : List Str) (hb : b4 = .lst (xs.map .str) ∨ b4 = tupS xs) (q : ∀ x, xs.find? (fun x => decide (x ∉ ks)) = some x → Q (unkD x) μ)
    (k : (∀ x ∈ xs, x ∈ ks) → ∀ a5, T (dFn μ Q E) [some (.dct (lkL ks u)), some (.int p), some d, some (.str b), some b4, a5, none] μ) :
    dSeq (dFor (dIter (dVar 4)) (dName 5) (dIf (dTest (dBin (gDIn true) (dVar 5) (dVar 0))) (dRet (dCall gLst (dCons (dC (.str "unknown")) (dCons (dVar 5) (dNil))))) (dNext))) T (dFn μ Q E) [some (.dct (lkL ks u)), some (.int p), some d, some (.str b), some b4, none, none] μ := by
  rw [dSeq]
  have it : ∀ Γ (Q' : Option (Nat × List D) → List D → Mu → Prop) E', Γ[4]? = some (some b4) → dIter (dVar 4) Γ μ Q' E' = Q' none (xs.map .str) μ := fun Γ Q' E' h => by
    rcases hb with rfl | rfl <;> simp only [dIter, dVar, h, tupS]
  simp only [dFor]
  rw [it _ _ _ rfl]
  refine loop_stop (src := none) (fun Γ => ∃ a5, Γ = [some (.dct (lkL ks u)), some (.int p), some d, some (.str b), some b4, a5, none]) D.str (fun x => decide (x ∉ ks)) (fun x => Q (unkD x) μ) trivial xs _ ⟨_, rfl⟩ ?_ q ?_
  · rintro x hx Γ ⟨a5, rfl⟩ Kn k1 k2
    simp only [dName, List.set_cons_succ, List.set_cons_zero, dIf, dTest, dBin, dVar, List.getElem?_cons_zero, List.getElem?_cons_succ, gDIn, lk, keyOfD, val_lk]
    by_cases hm : x ∈ ks
    · rw [if_pos hm]
      simp only [Option.isSome_some, Bool.not_true, if_true, cond_false, dNext]
      exact k2 (by simp [hm]) _ ⟨_, rfl⟩
    · rw [if_neg hm]
      simp only [Option.isSome_none, Bool.not_false, if_true, cond_true, dRet, dCall, dCons, dNil, dC, dVar, gLst, List.getElem?_cons_zero, List.getElem?_cons_succ]
      exact ⟨sz2, FnEnd.here (k1 (by simp [hm]))⟩
  · rintro hno Γ ⟨a5, rfl⟩
    exact k (fun x hx => by have := List.find?_eq_none.mp hno x hx; simpa using this) a5
theorem rd_l_tdue3 {n1 n2 n3 n4 n5 n6 n7 : Str} : ∀ ds μ Q E, S_l_tdue3 ds μ Q E → t_l_tdue3 (dFn μ Q E) (start0 [n1, n2, n3, n4, n5, n6, n7] ds) μ := by
  rintro _ μ Q E ⟨ks, u, p, d, b, rfl, hl, h⟩
  have pm := sortS_perm ks
  have sl := pm.length_eq
  have fm : ∀ xs : List Str, xs.find? (fun x => decide (x ∉ sortS ks)) = xs.find? (fun x => decide (x ∉ ks)) := find_mem fun x => pm.mem_iff
  unfold t_l_tdue3
  simp only [start0, List.map_cons, List.map_nil, List.length_cons, List.length_nil, List.replicate, List.cons_append, List.nil_append]
  have ix : ∀ (a b c : D) (j : Int) (e : D) (Q' : D → Mu → Prop), atI [a, b, c] j = some e → gIx (.lst [a, b, c]) (.int j) μ Q' = Q' e μ := fun a b c j e Q' h => by unfold gIx; simp only [lk, h]
  rcases h with ⟨rfl, a, rfl, q⟩ | ⟨rfl, a, rfl, q⟩ | ⟨rfl, xs, hd, hx, q⟩
  · unfold told3_0 at q
    rw [fm] at q
    refine seq_skipA rfl (by decide) ?_
    rw [dSeq]
    simp only [dAsg, dBin, dCall, dCons, dNil, dVar, gLst, List.getElem?_cons_zero, List.getElem?_cons_succ]
    refine ⟨by rw [sizeLine_eq]; simp, sz2, by rw [sizeLine_eq]; simp, ?_⟩
    rw [ix _ _ _ _ _ _ rfl]
    simp only [dName, List.set_cons_zero, List.set_cons_succ]
    refine tdue3_loop [a] (.inl rfl) (fun x hx => by rw [hx] at q; exact q) fun hin a5 => ?_
    have ha := hin a (by simp)
    rw [List.find?_cons_of_neg (by simpa using ha)] at q
    refine seq_take rfl rfl ?_
    simp only [dRet, dBin, dCall, dCons, dNil, dC, dVar, List.getElem?_cons_zero, List.getElem?_cons_succ, gDGet, lk, keyOfD, val_lk]
    rw [if_pos ha]
    simp only [gLst]
    exact ⟨sz2, FnEnd.here q⟩
  · unfold told3_1 at q
    rw [fm] at q
    refine seq_skipA rfl (by decide) ?_
    rw [dSeq]
    simp only [dAsg, dBin, dCall, dCons, dNil, dVar, gLst, List.getElem?_cons_zero, List.getElem?_cons_succ]
    refine ⟨by rw [sizeLine_eq]; simp, sz2, by rw [sizeLine_eq]; simp, ?_⟩
    rw [ix _ _ _ _ _ _ rfl]
    simp only [dName, List.set_cons_zero, List.set_cons_succ]
    refine tdue3_loop [a, b] (.inl rfl) (fun x hx => by rw [hx] at q; exact q) fun hin a5 => ?_
    have ha := hin a (by simp)
    have hb := hin b (by simp)
    rw [List.find?_cons_of_neg (by simpa using ha), List.find?_cons_of_neg (by simpa using hb)] at q
    refine seq_skip rfl (by decide) ?_
    refine seq_take rfl rfl ?_
    simp only [dRet, dBin, dCall, dCons, dNil, dC, dVar, List.getElem?_cons_zero, List.getElem?_cons_succ, gDGet, lk, keyOfD, val_lk]
    rw [if_pos ha, if_pos hb]
    simp only [gI, gLst]
    exact ⟨sz2, FnEnd.here q⟩
  · unfold told3_2 at q
    rw [fm] at q
    have gl : ∀ (Q' : D → Mu → Prop), gLen [d] μ Q' = Q' (.int (xs.length : Int)) μ := fun Q' => by
      rcases hd with rfl | rfl <;> (unfold gLen; simp only [lk, tupS, List.length_map])
    refine seq_takeA rfl rfl ?_
    simp only [dTest, dBin, dCall, dCons, dNil, dC, dVar, List.getElem?_cons_zero, List.getElem?_cons_succ, gl, gEq, deq_int]
    refine ⟨deqOk_int _ _ _, ?_⟩
    by_cases h0 : xs = []
    · rw [if_pos h0] at q
      rw [decide_eq_true (by rw [h0]; rfl)]
      simp only [cond_true, dRet, dCall, dCons, dNil, dC, gLst]
      exact ⟨sz2, FnEnd.here q⟩
    rw [if_neg h0] at q
    rw [decide_eq_false (by cases xs with | nil => exact absurd rfl h0 | cons x r => simp; omega)]
    simp only [cond_false]
    rw [dSeq]
    simp only [dAsg, dBin, dCall, dCons, dNil, dVar, gLst, List.getElem?_cons_zero, List.getElem?_cons_succ]
    refine ⟨by rw [sizeLine_eq]; simp, sz2, by rw [sizeLine_eq]; simp, ?_⟩
    rw [ix _ _ _ _ _ _ rfl]
    simp only [dName, List.set_cons_zero, List.set_cons_succ]
    refine tdue3_loop xs hd (fun x hx => by rw [hx] at q; exact q) fun hin a5 => ?_
    rw [List.find?_eq_none.mpr (fun x hx => by simp [hin x hx])] at q
    dsimp only at q
    refine seq_skip rfl (by decide) ?_
    refine seq_skip rfl (by decide) ?_
    have it : ∀ Γ (Q' : Option (Nat × List D) → List D → Mu → Prop) E', Γ[2]? = some (some d) → dIter (dVar 2) Γ μ Q' E' = Q' none (xs.map .str) μ := fun Γ Q' E' h => by
      rcases hd with rfl | rfl <;> simp only [dIter, dVar, h, tupS]
    rw [dSeq]
    simp only [dAsg, dCall, dCons, dNil, dComp]
    rw [it _ _ _ rfl]
    simp only [wipeG, List.set_cons_succ, List.set_cons_zero]
    refine comp_list (src := none) ((xs.map u).map .int) trivial (by simp) (by rw [List.length_map, sizeLine_eq]; omega) ?_ ?_
    · intro j x y hx hy K1 K2 k1
      rw [List.getElem?_map] at hx hy
      rw [List.getElem?_map] at hy
      cases hj : xs[j]? with
      | none => rw [hj] at hx; cases hx
      | some z =>
        rw [hj] at hx hy
        cases hx; cases hy
        simp only [cName, dYes, cond_true, dBin, dVar, List.set_cons_succ, List.set_cons_zero, List.getElem?_cons_zero, List.getElem?_cons_succ, gDGet, lk, keyOfD, val_lk]
        rw [if_pos (hin z (List.mem_of_getElem? hj))]
        exact k1
    simp only [dFin, gMaxL, lk]
    refine ⟨xs.map u, rfl, by simpa using h0, ?_⟩
    simp only [dName, List.set_cons_succ, List.set_cons_zero, dRet, dCall, dCons, dNil, dC, dComp, dIter, dVar, List.getElem?_cons_zero, List.getElem?_cons_succ, gSortedD, lk, keys_lk]
    refine ⟨by omega, ?_⟩
    simp only [dFin, wipeG, List.set_cons_succ, List.set_cons_zero]
    refine comp_filtS (src := none) (fun x => decide (x ∈ xs) && decide (u x = maxI (xs.map u))) trivial (sortS ks) (by simp) (by omega) (fun x hx K k => ?_) ?_
    · simp only [dAndT, dTest, dBin, dVar, List.set_cons_succ, List.set_cons_zero, List.getElem?_cons_zero, List.getElem?_cons_succ]
      have gi : gIn false (.str x) d μ = fun Q => (D.flat (.str x) = true ∧ (xs.map D.str).all D.flat = true) ∧ Q (.bl (inF (.str x) (xs.map D.str))) μ := by
        funext Q; rcases hd with rfl | rfl <;> simp [gIn, lk, tupS]
      rw [gi]
      refine ⟨⟨rfl, flat_strs' xs⟩, ?_⟩
      rw [inF_strs]
      by_cases hm : x ∈ xs
      · rw [decide_eq_true hm] at k ⊢
        simp only [cond_true, gDGet, lk, keyOfD, val_lk]
        rw [if_pos (pm.mem_iff.mp hx)]
        simp only [gEq, deq_int]
        exact ⟨deqOk_int _ _ _, k⟩
      · rw [decide_eq_false hm] at k ⊢
        simp only [cond_false]
        exact k
    · simp only [dFin, gTuple, lk, gLst]
      exact ⟨sz2, FnEnd.here q⟩
end DV
/-! d.clear() of a dict. -/
namespace DV
open PySem PySem.Spec PyProof.Rows L2
section
variable {X : Cx} {W : WX} {o : Expr} {fa : DTE} {pos apos : Pos}
theorem d_clearD {pins : List (Addr × Obj)} {σ : L2.St} {H : Hp} {s : Shared} {a : Addr} {kvs : List (Key × V)} {A : Around} {E : Value → Shared → Prop} {Q : Value → Shared → Prop} (I : Inv X pins σ H s) (e : H a = some (.dK kvs)) (h : ∀ s', Inv X pins σ (upd H a (.dK [])) s' → Q .none s') : wpAny (model X.prog X.w) A (call (.builtin "dict.clear") [.ref a]) Q E s := by
  obtain ⟨z, hd, vs, rel, dd⟩ := dk_of I.hok e
  obtain ⟨es, ep, hr, hsz, _⟩ := dd.raw
  refine call_meetsIn PySem.F.slot_dict_clear dd.typeIs PySem.F.entry_dict_clear (PySem.F.args_dict_clear_1 _) (meets_dict_clear_raw a) ⟨es, ep, hr, by rw [hsz, ← rel.length]; exact z, fun h' hr' hs' => h _ ?_⟩
  obtain ⟨ob, ho, hc, hdat⟩ := hr'
  exact d_write I (by rw [e]; exact True.intro) hs' ⟨_, ho⟩ (dk_new (Nat.zero_le _) hd .nil ⟨ob, #[], ep + 1, ho, hc, hdat, (by intro e he; simp at he), .nil, List.nodup_nil⟩)
def tDClear (td : TE) : TE := fun σ H Q => td σ H fun x H1 => ∃ a kvs, x = .ref a ∧ H1 a = some (.dK kvs) ∧ Q .non (upd H1 a (.dK []))
theorem pe_dclear {td : TE} {cpos : Pos} (ho : PE X o td) (hbase : attributeBase o "clear" X.env (eval o X.env) = eval o X.env := by rfl) (hline : (apos.endLine == cpos.line) = true := by rfl) : PE X (.Call (.Attribute o "clear" apos) [] [] cpos) (tDClear td) := by
  refine ⟨fun pins s σ H Q I h => ?_⟩
  refine wpAny_Call_method0_late hbase hline (thn (ho.run pins s σ H _ I h) fun v s1 ⟨x, H1, I1, r1, a, kvs, ex, ea, q⟩ => ?_)
  subst ex
  obtain rfl : v = Value.ref a := r1
  obtain ⟨t1, t2, _⟩ := isD_at I1 (.inl ⟨kvs, .inl ea⟩)
  exact ⟨"dict", "dict.clear", PySem.F.plainAttrs_dict, PySem.F.slot_dict_clear, PySem.F.type_dict_clear, t1, t2, Calls.callWith_builtin rfl (PySem.evalArgs_none (d_clearD I1 ea fun s' I' => ⟨.non, _, I', rfl, q⟩))⟩
def dClearD (fo : DTE) : DTE := fun Γ μ Q E => fo Γ μ (fun x μ1 => match x with
  | .ref l => (match μ1[l]? with
    | some (.dct kvs) => Q .non (μ1.set l (.dct []))
    | _ => False)
  | _ => False) E
theorem de_clearD (ho : DE X W o fa) (hbase : attributeBase o "clear" X.env (eval o X.env) = eval o X.env := by rfl) (hline : (apos.endLine == pos.line) = true := by rfl) : DE X W (.Call (.Attribute o "clear" apos) [] [] pos) (dClearD fa) :=
  PE.imp (pe_dclear ho hbase hline) fun σ H Q ⟨n, Γ, μ, Qd, Ed, hH, sr, gr, h, hq, hx⟩ => by
  subst hH
  refine lift_go sr gr h (fun n1 x dx μ1 s1 r1 p1 q1 => ?_) hx
  cases p1 with
  | @ref l a hl =>
    dsimp only at q1
    split at q1
    · rename_i xs e
      obtain ⟨hb, vs, h1, h2, h3⟩ := r1.cell _ _ _ hl e
      refine ⟨a, vs, rfl, h1, ?_⟩
      exact hq (n1.more a (.dK [])) .non .non _ (s1.trans (Step.write hl)) (r1.write hl hb (c := .dct []) ⟨hb, _, upd_same, rfl, .nil⟩ (fun k z => by cases z)) .non q1
    · exact q1.elim
  | _ => exact q1.elim
end
end DV
namespace DV
open PySem PySem.Spec PyProof.Rows L2
/-! drawn lists of texts -/
theorem comp_keepS {v : Nat} {Γ : Gam} {μ : Mu} {l c : Nat} {xs : List Str} {Q : List D → Mu → Prop} (hl : l < μ.length) (hc : xs.length ≤ c) (hn : xs.length ≤ 1000) (g0 : Γ[0]? = some (some (.ref l))) (hv : v ≠ 0) (hvl : v < Γ.length)
    (q : ∀ (us : List Str) c', (∀ u ∈ us, u ∈ xs) → us.length ≤ xs.length → c ≤ c' + xs.length → Q (us.map .str) (M μ l c')) :
    dCompL none (cName v) (dTest (dBin gEq (dOp S_draw (dCons (dVar 0) (dCons (dC (.int 2)) dNil))) (dC (.int 1)))) (dVar v) Γ (xs.map .str) [] (M μ l c) Q := by
  refine comp_inv (fun i acc μ' => ∃ us : List Str, acc = us.map .str ∧ (∀ u ∈ us, u ∈ xs) ∧ us.length ≤ i ∧ i ≤ xs.length ∧ μ' = M μ l (c - i)) ⟨[], rfl, by simp, by simp, by omega, rfl⟩ (by rw [List.length_map, sizeLine_eq]; omega) ?_ ?_
  · rintro i d acc μ' hd ⟨us, rfl, g1, g2, g3, rfl⟩
    rw [List.getElem?_map, Option.map_eq_some_iff] at hd
    obtain ⟨x, hx1, rfl⟩ := hd
    have hi : i < xs.length := (List.getElem?_eq_some_iff.mp hx1).1
    refine ⟨trivial, fun K1 K2 k1 k2 => ?_⟩
    have e0 : (Γ.set v (some (.str x)))[0]? = some (some (.ref l)) := by rw [List.getElem?_set_ne hv]; exact g0
    have e1 : (Γ.set v (some (D.str x)))[v]? = some (some (.str x)) := List.getElem?_set_self hvl
    simp only [cName, dTest, dBin, dOp, dCons, dNil, dC, dVar, e0]
    refine draw_M hl (by omega) (by decide) (by decide) fun t t0 t1 => ?_
    simp only [gEq, deq_int]
    refine ⟨deqOk_int _ _ _, ?_⟩
    by_cases ht : t = 1
    · simp only [ht, decide_true, cond_true, e1]
      refine k1 _ _ ⟨us ++ [x], by simp, fun u hu => ?_, by simp; omega, by omega, by congr 1⟩
      rcases List.mem_append.mp hu with z | z
      · exact g1 u z
      · rw [List.mem_singleton.mp z]; exact List.mem_of_getElem? hx1
    · simp only [ht, decide_false, cond_false]
      exact k2 _ ⟨us, rfl, g1, by omega, by omega, by congr 1⟩
  rintro acc μ' ⟨us, rfl, g1, g2, g3, rfl⟩
  rw [List.length_map] at g2 ⊢
  exact ⟨trivial, q us _ g1 g2 (by omega)⟩
theorem comp_pickS {v : Nat} {Γ : Gam} {μ : Mu} {l c : Nat} {n : Nat} {xs : List Str} {Q : List D → Mu → Prop} (hl : l < μ.length) (hc : n ≤ c) (hn : n ≤ 1000) (h1 : 1 ≤ xs.length) (h2 : xs.length ≤ 1000) {vm : Nat} (g0 : Γ[0]? = some (some (.ref l))) (gm : Γ[vm]? = some (some (.lst (xs.map .str)))) (hv : v ≠ 0) (hvm : v ≠ vm)
    (q : ∀ (us : List Str) c', (∀ u ∈ us, u ∈ xs) → us.length ≤ n → c ≤ c' + n → Q (us.map .str) (M μ l c')) :
    dCompL none (cName v) dYes (dBin gIx (dVar vm) (dOp S_draw (dCons (dVar 0) (dCons (dCall gLen (dCons (dVar vm) dNil)) dNil)))) Γ (irng 0 n) [] (M μ l c) Q := by
  refine comp_inv (fun i acc μ' => ∃ us : List Str, acc = us.map .str ∧ (∀ u ∈ us, u ∈ xs) ∧ us.length ≤ i ∧ i ≤ n ∧ μ' = M μ l (c - i)) ⟨[], rfl, by simp, by simp, by omega, rfl⟩ (by rw [irng_len, sizeLine_eq]; omega) ?_ ?_
  · rintro i d acc μ' hd ⟨us, rfl, g1, g2, g3, rfl⟩
    obtain ⟨hi, rfl⟩ := irng_get hd
    refine ⟨trivial, fun K1 K2 k1 k2 => ?_⟩
    have e0 : ∀ d, (Γ.set v d)[0]? = some (some (.ref l)) := fun d => by rw [List.getElem?_set_ne hv]; exact g0
    have e1 : ∀ d, (Γ.set v d)[vm]? = some (some (.lst (xs.map .str))) := fun d => by rw [List.getElem?_set_ne hvm]; exact gm
    simp only [cName, dYes, cond_true, dBin, dOp, dCall, dCons, dNil, dC, dVar, e0, e1, gLen, lk, List.length_map]
    refine draw_M hl (by omega) (by omega) (by omega) fun t t0 t1 => ?_
    obtain ⟨x, hx, ex⟩ := word_at (W := xs) t0 (by omega)
    unfold gIx
    simp only [lk, ex]
    refine k1 _ _ ⟨us ++ [x], by simp, fun u hu => ?_, by simp; omega, by omega, by congr 1⟩
    rcases List.mem_append.mp hu with z | z
    · exact g1 u z
    · rw [List.mem_singleton.mp z]; exact hx
  rintro acc μ' ⟨us, rfl, g1, g2, g3, rfl⟩
  rw [irng_len] at *
  exact ⟨trivial, q us _ g1 g2 (by omega)⟩
/-! what is asked -/
def it3 (ns : List Str) (u : Str → Int) (b : Str) (p : Int) (d : D) : Prop := ∃ rs, D.okn 12 (.lst rs) = true ∧ plan3 ns u p d b (fun x => x = .lst rs)
theorem plan3.imp {ns : List Str} {u : Str → Int} {b : Str} {p : Int} {d : D} {R S : D → Prop} (h : plan3 ns u p d b R) (k : ∀ r, R r → S r) : plan3 ns u p d b S := by
  rcases h with ⟨h1, a, h2, h3⟩ | ⟨h1, a, h2, h3⟩ | ⟨h1, a, h2, h4, h3⟩
  · exact .inl ⟨h1, a, h2, k _ h3⟩
  · exact .inr (.inl ⟨h1, a, h2, k _ h3⟩)
  · exact .inr (.inr ⟨h1, a, h2, h4, k _ h3⟩)
theorem unk_okn {x : Str} (h : asc x) : D.okn 12 (unkD x) = true := by
  have h1 : D.okn 11 (.str x) = true := asc_ok h
  show (D.okn 11 (.str (Str.ofString "unknown")) && (D.okn 11 (.str x) && true)) = true
  rw [h1]; decide +kernel
theorem it3_0 {ns : List Str} {u : Str → Int} {a b : Str} (ha : asc a) : it3 ns u b 0 (.str a) := by
  unfold it3 plan3
  by_cases h : a ∈ ns
  · exact ⟨[.str (Str.ofString "amount"), .int (u a)], by show (D.okn 11 (.str (Str.ofString "amount")) && (true && true)) = true; decide +kernel, .inl ⟨rfl, a, rfl, by unfold told3_0; rw [List.find?_cons_of_neg (by simpa using h)]; rfl⟩⟩
  · exact ⟨_, unk_okn ha, .inl ⟨rfl, a, rfl, by unfold told3_0; rw [List.find?_cons_of_pos (by simpa using h)]; rfl⟩⟩
theorem it3_1 {ns : List Str} {u : Str → Int} {a b : Str} (ha : asc a) (hb : asc b) : it3 ns u b 1 (.str a) := by
  unfold it3 plan3
  by_cases h : a ∈ ns
  · by_cases h' : b ∈ ns
    · exact ⟨[.str (Str.ofString "prefers"), .bl (decide (u b < u a))], by show (D.okn 11 (.str (Str.ofString "prefers")) && (true && true)) = true; decide +kernel, .inr (.inl ⟨rfl, a, rfl, by unfold told3_1; rw [List.find?_cons_of_neg (by simpa using h), List.find?_cons_of_neg (by simpa using h')]; rfl⟩)⟩
    · exact ⟨_, unk_okn hb, .inr (.inl ⟨rfl, a, rfl, by unfold told3_1; rw [List.find?_cons_of_neg (by simpa using h), List.find?_cons_of_pos (by simpa using h')]; rfl⟩)⟩
  · exact ⟨_, unk_okn ha, .inr (.inl ⟨rfl, a, rfl, by unfold told3_1; rw [List.find?_cons_of_pos (by simpa using h)]; rfl⟩)⟩
theorem it3_2 {ns : List Str} {u : Str → Int} {b : Str} {xs : List Str} {d : D} (hns : ∀ x ∈ ns, asc x) (hd : d = .lst (xs.map .str) ∨ d = tupS xs) (hl : xs.length ≤ 100) (hx : ∀ x ∈ xs, asc x) : it3 ns u b 2 d := by
  unfold it3 plan3
  by_cases h0 : xs = []
  · exact ⟨[.str (Str.ofString "count"), .int 0], by decide +kernel, .inr (.inr ⟨rfl, xs, hd, hl, by unfold told3_2; rw [if_pos h0]⟩)⟩
  · cases hf : xs.find? (fun x => decide (x ∉ ns)) with
    | some x => exact ⟨_, unk_okn (hx x (List.mem_of_find?_eq_some hf)), .inr (.inr ⟨rfl, xs, hd, hl, by unfold told3_2; rw [if_neg h0, hf]; rfl⟩)⟩
    | none =>
      refine ⟨[.str (Str.ofString "best"), tupS (bestL ns u xs)], ?_, .inr (.inr ⟨rfl, xs, hd, hl, by unfold told3_2; rw [if_neg h0, hf]⟩)⟩
      have : D.okn 11 (tupS (bestL ns u xs)) = true := okn_strs (fun x hx => hns x (List.mem_filter.mp hx).1) 10
      show (D.okn 11 (.str (Str.ofString "best")) && (D.okn 11 (tupS (bestL ns u xs)) && true)) = true
      rw [this]; decide +kernel
theorem ne_self3 {μ : Mu} {d : D} {Q : D → Mu → Prop} (hl : lk μ d = d) (h : D.okn 12 d = true) (q : Q (.bl false) μ) : gNe d d μ Q := by
  unfold gNe deqOk deq
  rw [hl, SeqAt.eqv_refl _ (okn_lay 12 d h).1]
  exact ⟨⟨h, h⟩, q⟩
theorem rk_okn3 {ns : List Str} {u : Str → Int} (h : NOk ns) : D.okn 12 (.lst ((rk ns u).map tupS)) = true := by
  refine List.all_eq_true.mpr fun f hf => ?_
  obtain ⟨r, hr, rfl⟩ := List.mem_map.mp hf
  exact okn_strs (fun x hx => h.asc (rk_sub r hr x hx)) 10
def S_l_right3 (C : Cs) : DSp := fun ds μ Q _ => ∃ l c ks u, ds = [.ref l, wD C (sortS ks) u, .dct (lkL ks u)] ∧ μ[l]? = some (.orc (c, true)) ∧ 200 ≤ c ∧ NOk ks ∧ ∀ c', Q (.bl true) (M μ l c')
def t_l_right3_f0 (C : Cs) : DTS := dIf (dTest (dBin gNe (dOp (S_l_told3 C) (dCons (dVar 1) (dCons (dVar 9) (dCons (dVar 10) (dCons (dVar 6) (dNil)))))) (dOp S_l_tdue3 (dCons (dVar 2) (dCons (dVar 9) (dCons (dVar 10) (dCons (dVar 6) (dNil)))))))) (dRet (dC (.bl false))) (dNext)
def t_l_right3_f1_4 (C : Cs) : DTS := dFor (dIter (dCall gLst (dCons (dCall gTup (dCons (dC (.int 0)) (dCons (dVar 5) (dNil)))) (dCons (dCall gTup (dCons (dC (.int 1)) (dCons (dVar 5) (dNil)))) (dCons (dCall gTup (dCons (dC (.int 2)) (dCons (dVar 7) (dNil)))) (dCons (dCall gTup (dCons (dC (.int 2)) (dCons (dVar 8) (dNil)))) (dCons (dCall gTup (dCons (dC (.int 2)) (dCons (dCall gTuple (dCons (dVar 7) dNil)) (dNil)))) (dCons (dCall gTup (dCons (dC (.int 2)) (dCons (dCall gTuple (dCons (dVar 8) dNil)) (dNil)))) (dNil))))))))) (dPair 9 10) (dIf (dTest (dBin gNe (dOp (S_l_told3 C) (dCons (dVar 1) (dCons (dVar 9) (dCons (dVar 10) (dCons (dVar 6) (dNil)))))) (dOp S_l_tdue3 (dCons (dVar 2) (dCons (dVar 9) (dCons (dVar 10) (dCons (dVar 6) (dNil)))))))) (dRet (dC (.bl false))) (dNext))
def t_l_right3_f1_3 (C : Cs) : DTS := dSeq (dAsg (dOp S_order24 (dCons (dVar 0) (dCons (dComp true [13] (dIter (dBin gAdd (dCall (gSortedD true) (dCons (dVar 2) dNil)) (dCall (gSortedD true) (dCons (dVar 2) dNil)))) (cName 13) (dTest (dBin gEq (dOp S_draw (dCons (dVar 0) (dCons (dC (.int 2)) (dNil)))) (dC (.int 1)))) (dVar 13)) (dNil)))) (dName 8)) (t_l_right3_f1_4 C)
def t_l_right3_f1_2 (C : Cs) : DTS := dSeq (dAsg (dComp true [12] (dRange1 (dOp S_draw (dCons (dVar 0) (dCons (dC (.int 5)) (dNil))))) (cName 12) (dYes) (dBin gIx (dVar 3) (dOp S_draw (dCons (dVar 0) (dCons (dCall gLen (dCons (dVar 3) dNil)) (dNil)))))) (dName 7)) (t_l_right3_f1_3 C)
def t_l_right3_f1_1 (C : Cs) : DTS := dSeq (dAsg (dBin gIx (dVar 3) (dOp S_draw (dCons (dVar 0) (dCons (dCall gLen (dCons (dVar 3) dNil)) (dNil))))) (dName 6)) (t_l_right3_f1_2 C)
def t_l_right3_f1 (C : Cs) : DTS := dSeq (dAsg (dBin gIx (dVar 3) (dOp S_draw (dCons (dVar 0) (dCons (dCall gLen (dCons (dVar 3) dNil)) (dNil))))) (dName 5)) (t_l_right3_f1_1 C)
def t_l_right3_5 (C : Cs) : DTS := dRet (dBin gEq (dMethod C.W "ranks" (S_W_ranks3 C) (dVar 1) dNil) (dOp S_l_ranks4 (dCons (dVar 2) (dNil))))
def t_l_right3_4 (C : Cs) : DTS := dSeq (dDrop (dClear0 (dVar 11))) (t_l_right3_5 C)
def t_l_right3_3 (C : Cs) : DTS := dSeq (dIf (dOrT (dNotT (dTest (dIsi .list (dVar 11)))) (dTest (dBin gNe (dVar 11) (dOp S_l_ranks4 (dCons (dVar 2) (dNil)))))) (dRet (dC (.bl false))) (dNext)) (t_l_right3_4 C)
def t_l_right3_2 (C : Cs) : DTS := dSeq (dAsg (dMethod C.W "ranks" (S_W_ranks3 C) (dVar 1) dNil) (dName 11)) (t_l_right3_3 C)
def t_l_right3_1 (C : Cs) : DTS := dSeq (dFor (dRange1 (dC (.int 4))) (dName 4) (t_l_right3_f1 C)) (t_l_right3_2 C)
def t_l_right3 (C : Cs) : DTS := dSeq (dAsg (dBin gAdd (dCall (gSortedD true) (dCons (dVar 2) dNil)) (dCall gLst (dCons (dC (.str "zz9")) (dCons (dC (.str "")) (dCons (dBin gAdd (dBin gIx (dCall (gSortedD true) (dCons (dVar 2) dNil)) (dC (.int 0))) (dC (.str "1"))) (dNil)))))) (dName 3)) (t_l_right3_1 C)
theorem right3_f0 {C : Cs} {μ' : Mu} {Q : D → Mu → Prop} {E : Exn → Mu → Prop} {De : DEnds} {ks : List Str} {u : Str → Int} {a0 a3 a4 a5 a7 a8 a11 a12 a13 : Option D} {b : Str} {p : Int} {d : D} (hk : NOk ks) (h : it3 (sortS ks) u b p d)
    (kn : De.nx [a0, some (wD C (sortS ks) u), some (.dct (lkL ks u)), a3, a4, a5, some (.str b), a7, a8, some (.int p), some d, a11, a12, a13] μ') :
    t_l_right3_f0 C De [a0, some (wD C (sortS ks) u), some (.dct (lkL ks u)), a3, a4, a5, some (.str b), a7, a8, some (.int p), some d, a11, a12, a13] μ' := by
  obtain ⟨rs, ho, hp⟩ := h
  have sl := (sortS_perm ks).length_eq
  have l6 := hk.l6
  unfold t_l_right3_f0
  simp only [dIf, dTest, dBin, dOp, dCons, dNil, dVar, List.getElem?_cons_zero, List.getElem?_cons_succ]
  refine ⟨sortS ks, u, p, d, b, rfl, by omega, hp.imp fun r hr => ?_⟩
  subst hr
  refine ⟨ks, u, p, d, b, rfl, by omega, hp.imp fun r hr => ?_⟩
  subst hr
  refine ne_self3 rfl ho ?_
  simp only [cond_false, dNext]
  exact kn
theorem right3_f1 {C : Cs} {μ : Mu} {l c : Nat} {De : DEnds} {ks ms : List Str} {u : Str → Int} {a4 a5 a6 a7 a8 a9 a10 a11 : Option D} (hl : l < μ.length) (hc : 31 ≤ c) (hk : NOk ks) (hm : ∀ x ∈ ms, asc x) (hm1 : 1 ≤ ms.length) (hm2 : ms.length ≤ 20)
    (kn : ∀ c' a4 a5 a6 a7 a8 a9 a10, c ≤ c' + 31 → De.nx [some (.ref l), some (wD C (sortS ks) u), some (.dct (lkL ks u)), some (.lst (ms.map .str)), a4, a5, a6, a7, a8, a9, a10, a11, none, none] (M μ l c')) :
    t_l_right3_f1 C De [some (.ref l), some (wD C (sortS ks) u), some (.dct (lkL ks u)), some (.lst (ms.map .str)), a4, a5, a6, a7, a8, a9, a10, a11, none, none] (M μ l c) := by
  have pm := sortS_perm ks
  have sl := pm.length_eq
  have l6 := hk.l6
  have pick : ∀ (t : Int) μ', 0 ≤ t → t < (ms.length : Int) → ∃ x, x ∈ ms ∧ ∀ (Q' : D → Mu → Prop), gIx (.lst (ms.map .str)) (.int t) μ' Q' = Q' (.str x) μ' := fun t μ' t0 t1 => by
    obtain ⟨x, hx, ex⟩ := word_at (W := ms) t0 t1
    exact ⟨x, hx, fun Q' => by unfold gIx; simp only [lk, ex]⟩
  unfold t_l_right3_f1
  rw [dSeq]
  simp only [dAsg, dBin, dOp, dCall, dCons, dNil, dVar, List.getElem?_cons_zero, List.getElem?_cons_succ, gLen, lk, List.length_map]
  refine draw_M hl (by omega) (by omega) (by omega) fun t t0 t1 => ?_
  obtain ⟨a, ha, ea⟩ := pick t (M μ l (c - 1)) t0 t1
  rw [ea]
  simp only [dName, List.set_cons_succ, List.set_cons_zero]
  unfold t_l_right3_f1_1
  try dsimp only
  rw [dSeq]
  simp only [dAsg, dBin, dOp, dCall, dCons, dNil, dVar, List.getElem?_cons_zero, List.getElem?_cons_succ, gLen, lk, List.length_map]
  refine draw_M hl (by omega) (by omega) (by omega) fun t t0 t1 => ?_
  obtain ⟨b, hb, eb⟩ := pick t (M μ l (c - 1 - 1)) t0 t1
  rw [eb]
  simp only [dName, List.set_cons_succ, List.set_cons_zero]
  unfold t_l_right3_f1_2
  try dsimp only
  rw [dSeq]
  simp only [dAsg, dComp, dRange1, dOp, dCons, dNil, dC, dVar, List.getElem?_cons_zero, List.getElem?_cons_succ, wipeG, List.set_cons_succ, List.set_cons_zero]
  refine draw_M hl (by omega) (by omega) (by omega) fun t t0 t1 => ?_
  refine ⟨by omega, ?_⟩
  refine comp_pickS hl (by omega) (by omega) hm1 (by omega) (vm := 3) rfl rfl (by decide) (by decide) fun xs c1 hxs hxl hc1 => ?_
  simp only [dFin, dName, List.set_cons_succ, List.set_cons_zero]
  unfold t_l_right3_f1_3
  try dsimp only
  rw [dSeq]
  simp only [dAsg, dOp, dComp, dIter, dBin, dCall, dCons, dNil, dC, dVar, List.getElem?_cons_zero, List.getElem?_cons_succ, gSortedD, lk, keys_lk]
  refine ⟨by omega, ?_⟩
  simp only [dFin, lk, keys_lk]
  refine ⟨by omega, ?_⟩
  simp only [gAdd, lk, wipeG, List.set_cons_succ, List.set_cons_zero]
  refine ⟨by rw [sizeLine_eq]; simp; omega, ?_⟩
  rw [← List.map_append]
  have dl : (sortS ks ++ sortS ks).length ≤ 12 := by rw [List.length_append]; omega
  refine comp_keepS hl (by omega) (by omega) rfl (by decide) (by simp) fun ys c2 hys hyl hc2 => ?_
  refine .inl ⟨l, c2, _, ys.map .str, rfl, M_get hl, .inl rfl, by rw [List.length_map]; omega, by rw [List.length_map]; omega, .inl ⟨pu_strs _, fun c3 zs hc3 hp => ?_⟩⟩
  obtain ⟨vs, rfl, pv⟩ := perm_strs hp
  rw [show M (M μ l c2) l c3 = M μ l c3 from M_set]
  rw [List.length_map] at hc3
  simp only [dName, List.set_cons_succ, List.set_cons_zero]
  have hax : ∀ x ∈ xs, asc x := fun x hx => hm x (hxs x hx)
  have hay : ∀ x ∈ vs, asc x := fun x hx => by
    have := hys x (pv.mem_iff.mp hx)
    rw [List.mem_append, or_self] at this
    exact hk.sort.asc this
  have hvl : vs.length ≤ 12 := by rw [pv.length_eq]; omega
  have hns : ∀ x ∈ sortS ks, asc x := fun x hx => hk.sort.asc hx
  unfold t_l_right3_f1_4
  simp only [dFor, dIter, dCall, dCons, dNil, dC, dVar, List.getElem?_cons_zero, List.getElem?_cons_succ, gTup, gTuple, gLst, lk]
  refine ⟨sz2, sz2, sz2, sz2, sz2, sz2, by rw [sizeLine_eq]; simp, ?_⟩
  refine loop_inv (src := none) (fun i Γ μ' => ∃ a9 a10, Γ = [some (.ref l), some (wD C (sortS ks) u), some (.dct (lkL ks u)), some (.lst (ms.map .str)), a4, some (.str a), some (.str b), some (.lst (xs.map .str)), some (.lst (vs.map .str)), a9, a10, a11, none, none] ∧ μ' = M μ l c3) ⟨_, _, rfl, rfl⟩ ?_ ?_
  · rintro i d Γ μ' hd ⟨a9, a10, rfl, rfl⟩
    refine ⟨trivial, fun Kn kk => ?_⟩
    have hit : ∃ p e, d = .tup [.int p, e] ∧ it3 (sortS ks) u b p e := by
      have := List.mem_of_getElem? hd
      simp only [List.mem_cons, List.not_mem_nil, or_false] at this
      rcases this with rfl | rfl | rfl | rfl | rfl | rfl
      · exact ⟨_, _, rfl, it3_0 (hm a ha)⟩
      · exact ⟨_, _, rfl, it3_1 (hm a ha) (hm b hb)⟩
      · exact ⟨_, _, rfl, it3_2 hns (.inl rfl) (by omega) hax⟩
      · exact ⟨_, _, rfl, it3_2 hns (.inl rfl) (by omega) hay⟩
      · exact ⟨_, _, rfl, it3_2 hns (.inr rfl) (by omega) hax⟩
      · exact ⟨_, _, rfl, it3_2 hns (.inr rfl) (by omega) hay⟩
    obtain ⟨p, e, rfl, hi⟩ := hit
    simp only [dPair, List.set_cons_succ, List.set_cons_zero]
    exact right3_f0 (Q := fun _ _ => True) (E := fun _ _ => True) hk hi (kk _ _ ⟨_, _, rfl, rfl⟩)
  · rintro Γ μ' ⟨a9, a10, rfl, rfl⟩
    exact ⟨trivial, kn c3 _ _ _ _ _ _ _ (by omega)⟩
theorem gEqC {μ : Mu} {d e : D} {xs : List D} {Q : D → Mu → Prop} (h1 : lk μ d = .lst xs) (h2 : e = .lst xs) (h : D.okn 12 (.lst xs) = true) (q : Q (.bl true) μ) : gEq d e μ Q := by
  subst h2
  unfold gEq deqOk deq
  rw [h1, show lk μ (.lst xs) = .lst xs from rfl, SeqAt.eqv_refl _ (okn_lay 12 _ h).1]
  exact ⟨⟨h, h⟩, q⟩
theorem gNeC {μ : Mu} {d e : D} {xs : List D} {Q : D → Mu → Prop} (h1 : lk μ d = .lst xs) (h2 : e = .lst xs) (h : D.okn 12 (.lst xs) = true) (q : Q (.bl false) μ) : gNe d e μ Q := by
  subst h2
  unfold gNe deqOk deq
  rw [h1, show lk μ (.lst xs) = .lst xs from rfl, SeqAt.eqv_refl _ (okn_lay 12 _ h).1]
  exact ⟨⟨h, h⟩, q⟩
theorem rd_l_right3 {C : Cs} {n1 n2 n3 n4 n5 n6 n7 n8 n9 n10 n11 n12 n13 n14 : Str} : ∀ ds μ Q E, S_l_right3 C ds μ Q E → t_l_right3 C (dFn μ Q E) (start0 [n1, n2, n3, n4, n5, n6, n7, n8, n9, n10, n11, n12, n13, n14] ds) μ := by
  rintro _ μ Q E ⟨l, c, ks, u, rfl, ho, hc, hk, q⟩
  have hl := orc_lt ho
  have pm := sortS_perm ks
  have sl := pm.length_eq
  have l1 := hk.l1
  have l6 := hk.l6
  have hs := hk.sort
  have ss : sortS (sortS ks) = sortS ks := sortS_eq2 pm
  have e0 : t_l_right3 C (dFn μ Q E) (start0 [n1, n2, n3, n4, n5, n6, n7, n8, n9, n10, n11, n12, n13, n14] [.ref l, wD C (sortS ks) u, .dct (lkL ks u)]) (M μ l c) → t_l_right3 C (dFn μ Q E) (start0 [n1, n2, n3, n4, n5, n6, n7, n8, n9, n10, n11, n12, n13, n14] [.ref l, wD C (sortS ks) u, .dct (lkL ks u)]) μ := fun h => by rw [M_id ho] at h; exact h
  refine e0 ?_
  unfold t_l_right3
  rw [dSeq]
  simp only [dAsg, dBin, dCall, dCons, dNil, dC, dVar, start0, List.map_cons, List.map_nil, List.length_cons, List.length_nil, List.replicate, List.cons_append, List.nil_append, List.getElem?_cons_zero, List.getElem?_cons_succ, gSortedD, lk, keys_lk]
  refine ⟨by omega, ?_⟩
  simp only [dFin, lk, keys_lk]
  refine ⟨by omega, ?_⟩
  obtain ⟨x0, r0, hx0⟩ : ∃ x0 r0, sortS ks = x0 :: r0 := by cases e : sortS ks with
    | nil => rw [e] at sl; simp at sl; omega
    | cons a r => exact ⟨a, r, rfl⟩
  have vx0 : validN x0 = true := hs.ok x0 (by rw [hx0]; exact List.mem_cons_self)
  have i0 : ∀ (Q' : D → Mu → Prop) μ', gIx (.lst ((sortS ks).map .str)) (.int 0) μ' Q' = Q' (.str x0) μ' := fun Q' μ' => by rw [hx0, List.map_cons]; unfold gIx; simp only [lk, atI_zero]
  rw [i0]
  have z1 : (Str.ofString "1").length = 1 := by decide +kernel
  have zx := (valid_asc vx0).2.1
  simp only [gAdd, lk, gLst]
  refine ⟨by rw [z1, sizeLine_eq]; omega, by rw [sizeLine_eq]; simp, by rw [List.length_map, sizeLine_eq]; simp; omega, ?_⟩
  obtain ⟨ms, hms⟩ : ∃ ms, ms = sortS ks ++ [Str.ofString "zz9", Str.ofString "", x0 ++ Str.ofString "1"] := ⟨_, rfl⟩
  rw [show (sortS ks).map D.str ++ [D.str (Str.ofString "zz9"), D.str (Str.ofString ""), D.str (x0 ++ Str.ofString "1")] = ms.map .str from by rw [hms, List.map_append]; rfl]
  have hm : ∀ x ∈ ms, asc x := fun x hx => by
    rw [hms] at hx
    rcases List.mem_append.mp hx with h | h
    · exact hs.asc h
    · simp only [List.mem_cons, List.not_mem_nil, or_false] at h
      rcases h with rfl | rfl | rfl
      · exact asc_dec (by decide +kernel)
      · exact asc_dec (by decide +kernel)
      · exact asc_app (valid_asc vx0).1 (asc_dec (by decide +kernel))
  have hml : ms.length = ks.length + 3 := by rw [hms, List.length_append, sl]; rfl
  simp only [dName, List.set_cons_succ, List.set_cons_zero]
  unfold t_l_right3_1
  try dsimp only
  rw [dSeq]
  simp only [dFor, dRange1, dC]
  refine ⟨by decide, ?_⟩
  refine loop_inv (src := none) (fun i Γ μ' => ∃ c' a4 a5 a6 a7 a8 a9 a10, c ≤ c' + 31 * i ∧ i ≤ 4 ∧ Γ = [some (.ref l), some (wD C (sortS ks) u), some (.dct (lkL ks u)), some (.lst (ms.map .str)), a4, a5, a6, a7, a8, a9, a10, none, none, none] ∧ μ' = M μ l c') ⟨c, _, _, _, _, _, _, _, by omega, by omega, rfl, rfl⟩ ?_ ?_
  · rintro i d Γ μ' hd ⟨c', a4, a5, a6, a7, a8, a9, a10, h1, h2, rfl, rfl⟩
    obtain ⟨hi, rfl⟩ := irng_get hd
    have hi : i < 4 := hi
    refine ⟨trivial, fun Kn kk => ?_⟩
    simp only [dName, List.set_cons_succ, List.set_cons_zero]
    exact right3_f1 hl (by omega) hk hm (by omega) (by omega) fun c'' b4 b5 b6 b7 b8 b9 b10 hc'' => kk _ _ ⟨c'', _, _, _, _, _, _, _, by omega, by omega, rfl, rfl⟩
  · rintro Γ μ' ⟨c', a4, a5, a6, a7, a8, a9, a10, h1, h2, rfl, rfl⟩
    refine ⟨trivial, ?_⟩
    unfold t_l_right3_2
    try dsimp only
    rw [dSeq]
    simp only [dAsg, dMethod, dNil, dVar, List.getElem?_cons_zero, List.getElem?_cons_succ]
    refine ⟨w_own (by decide +kernel), sortS ks, u, rfl, by omega, .inr ?_⟩
    simp only [dName, List.set_cons_succ, List.set_cons_zero]
    unfold t_l_right3_3
    try dsimp only
    rw [dSeq]
    have ro := rk_okn3 (u := u) hs
    have gl : lk (M μ l c' ++ [Cell.lst ((rk (sortS ks) u).map tupS)]) (.ref (M μ l c').length) = .lst ((rk (sortS ks) u).map tupS) := lk_last
    simp only [dIf, dOrT, dNotT, dTest, dIsi, dBin, dOp, dCons, dNil, dVar, List.getElem?_cons_zero, List.getElem?_cons_succ, gl, tyD, show Ty.sub .list .list = true from rfl, Bool.not_true, cond_false]
    refine ⟨ks, u, rfl, by omega, ?_⟩
    refine gNeC gl rfl ro ?_
    simp only [cond_false, dNext]
    unfold t_l_right3_4
    try dsimp only
    rw [dSeq]
    have gc : (M μ l c' ++ [Cell.lst ((rk (sortS ks) u).map tupS)])[(M μ l c').length]? = some (.lst ((rk (sortS ks) u).map tupS)) := get_a0
    simp only [dDrop, dClear0, dVar, List.getElem?_cons_zero, List.getElem?_cons_succ, gc]
    rw [set_a0]
    unfold t_l_right3_5
    simp only [dRet, dBin, dMethod, dOp, dCons, dNil, dVar, List.getElem?_cons_zero, List.getElem?_cons_succ]
    refine ⟨w_own (by decide +kernel), sortS ks, u, rfl, by omega, .inl ?_⟩
    refine ⟨ks, u, rfl, by omega, ?_⟩
    refine gEqC rfl rfl ro ?_
    exact FnEnd.pure M_upd rfl (q c')
end DV
/-! x in ys, x any data, looking through cells. -/
namespace DV
open PySem PySem.Spec PyProof.Rows L2
end DV
local macro_rules | `(tactic| walk_at "dv") => `(tactic| try simp only [DV.dSeq, DV.dIf, DV.dOrT, DV.dAndT, DV.dNotT, DV.dTest, DV.dChain, DV.dC, DV.dCall, DV.gLen, DV.dCons, DV.dVar, DV.dNil, DV.dBin, DV.dUn, DV.gNeg, DV.gIn, DV.gIx, DV.dRet, DV.dRetN, DV.dNext, DV.dFor, DV.dIter, DV.dName, DV.lk, DV.dAsg, DV.dDrop, DV.gLst, DV.gTup, DV.gLstM, DV.gAdd, DV.gI, DV.gMod, DV.gMul, DV.gFdiv, DV.gPow, DV.gAbs, DV.gInt, DV.gList, DV.gTuple, DV.dOp, DV.dOpK, DV.dIsi, DV.tyD, DV.gIs, DV.gIsNot, DV.D.isN, DV.dJoin, DV.dCellM, DV.dSetI, DV.dSlice, DV.dPart, DV.dNoPart, DV.dRevA, DV.dFin, DV.dAugI, DV.dComp, DV.wipeG, DV.cName, DV.cPair, DV.dYes, DV.dRange1, DV.dRange2, DV.dAnd, DV.dOr, DV.dNot, DV.dIfE, DV.gEq, DV.gNe, DV.sgn_one, DV.atI_zero, DV.dTruth, DV.truD, DV.dBreak, DV.dCont, DV.gSorted, DV.dSortK, DV.dRevT, DV.gInD, DV.gIsB, DV.gStr, DV.dPop0, DV.dDict, DV.dPairs, DV.keysD, DV.keyOfD, DV.dFinD, DV.dFld, DV.dSetF, DV.dMake, DV.dMethod, DV.dProp, DV.dOwnIx, DV.dNever, DV.dRaise, DV.dRaise0, DV.gMulM, DV.gAddM, DV.gMax2, DV.dPair, DV.gDGet, DV.dSetD, DV.dDict0, DV.dComp2, DV.dSortSC, DV.isIns, DV.insOf,
  List.getElem?_cons_zero, List.getElem?_cons_succ, List.set_cons_zero, List.set_cons_succ, List.map_cons, List.map_nil, List.length_cons, List.length_nil, List.replicate, Nat.sub_self, List.append_nil, List.cons_append, List.nil_append, DV.start0, if_true, if_false, Bool.not_true, Bool.not_false, Bool.false_eq_true, Bool.true_and, Bool.and_true, Bool.or_true, Bool.true_or, Bool.false_or, Bool.or_false, eq_self_iff_true, not_true_eq_false, not_false_eq_true, ite_true, ite_false, cond_true, cond_false])
namespace DV
open PySem PySem.Spec PyProof.Rows L2
/-! plain values: no cells, no dicts, no objects -/
theorem deqW_okn {k : Nat} {d : D} (h : D.okn k d = true) : deqW k d d = some true := by
  have e : PyData.eqv (D.py k d) (D.py k d) = true := SeqAt.eqv_refl _ (okn_lay k d h).1
  cases k <;> (unfold deqW; rw [h]; simp only [Bool.and_self, cond_true, e])
theorem goodF_frz {μ : Mu} : ∀ (k : Nat) (d : D), goodF k d = true → frz μ k d = d := by
  intro k
  induction k with
  | zero => intro d h; rfl
  | succ k ih =>
    intro d h
    have e : frz μ (k + 1) d = (match lk μ d with | .lst ds => D.lst (ds.map (frz μ k)) | .tup ds => .tup (ds.map (frz μ k)) | .dct kvs => .dct (kvs.map fun p => (p.1, frz μ k p.2)) | e => e) := rfl
    rw [e]
    cases d <;> simp only [goodF, Bool.false_eq_true] at h <;> simp only [lk] <;> first
      | rfl
      | (congr 1
         rw [List.all_eq_true] at h
         exact (List.map_congr_left fun x hx => ih x (h x hx)).trans (List.map_id _))
      | (congr 1
         rw [List.all_eq_true] at h
         refine (List.map_congr_left fun x hx => ?_).trans (List.map_id _)
         show (x.1, frz μ k x.2) = x
         rw [ih x.2 (h x hx)])
theorem goodF_up : ∀ (k : Nat) (d : D), goodF k d = true → goodF (k + 1) d = true := by
  intro k
  induction k with
  | zero => intro d h; cases d <;> simp only [goodF, Bool.false_eq_true] at h ⊢
  | succ k ih =>
    intro d h
    cases d <;> simp only [goodF, Bool.false_eq_true] at h ⊢ <;>
      (rw [List.all_eq_true] at h ⊢; exact fun x hx => ih _ (h x hx))
theorem goodF_mono {k j : Nat} (hj : k ≤ j) {d : D} (h : goodF k d = true) : goodF j d = true := by
  induction hj with
  | refl => exact h
  | step _ ih => exact goodF_up _ _ ih
end DV
namespace DV
open PySem PySem.Spec PyProof.Rows L2
/-! any value, asked with a list of names: what it is made of -/
end DV
local macro_rules | `(tactic| walk_at "dv") => `(tactic| try simp only [DV.dSeq, DV.dIf, DV.dOrT, DV.dAndT, DV.dNotT, DV.dTest, DV.dChain, DV.dC, DV.dCall, DV.gLen, DV.dCons, DV.dVar, DV.dNil, DV.dBin, DV.dUn, DV.gNeg, DV.gIn, DV.gIx, DV.dRet, DV.dRetN, DV.dNext, DV.dFor, DV.dIter, DV.dName, DV.lk, DV.dAsg, DV.dDrop, DV.gLst, DV.gTup, DV.gLstM, DV.gAdd, DV.gI, DV.gMod, DV.gMul, DV.gFdiv, DV.gPow, DV.gAbs, DV.gInt, DV.gList, DV.gTuple, DV.dOp, DV.dOpK, DV.dIsi, DV.tyD, DV.gIs, DV.gIsNot, DV.D.isN, DV.dJoin, DV.dCellM, DV.dSetI, DV.dSlice, DV.dPart, DV.dNoPart, DV.dRevA, DV.dFin, DV.dAugI, DV.dComp, DV.wipeG, DV.cName, DV.cPair, DV.dYes, DV.dRange1, DV.dRange2, DV.dAnd, DV.dOr, DV.dNot, DV.dIfE, DV.gEq, DV.gNe, DV.sgn_one, DV.atI_zero, DV.dTruth, DV.truD, DV.dBreak, DV.dCont, DV.gSorted, DV.dSortK, DV.dRevT, DV.gInD, DV.gIsB, DV.gStr, DV.dPop0, DV.dDict, DV.dPairs, DV.keysD, DV.keyOfD, DV.dFinD, DV.dFld, DV.dSetF, DV.dMake, DV.dMethod, DV.dProp, DV.dOwnIx, DV.dNever, DV.gMulM, DV.gAddM, DV.gMax2, DV.dPair, DV.gDGet, DV.dSetD, DV.dDict0, DV.dComp2, DV.dSortSC, DV.isIns, DV.insOf,
  List.getElem?_cons_zero, List.getElem?_cons_succ, List.set_cons_zero, List.set_cons_succ, List.map_cons, List.map_nil, List.length_cons, List.length_nil, List.replicate, Nat.sub_self, List.append_nil, List.cons_append, List.nil_append, DV.start0, if_true, if_false, Bool.not_true, Bool.not_false, Bool.false_eq_true, Bool.true_and, Bool.and_true, Bool.or_true, Bool.true_or, Bool.false_or, Bool.or_false, eq_self_iff_true, not_true_eq_false, not_false_eq_true, ite_true, ite_false, cond_true, cond_false])
namespace DV
open PySem PySem.Spec PyProof.Rows L2
/-! the law's own way to the same answer -/
end DV
/-! Own classes and methods called with keywords. -/
namespace DV
open PySem PySem.Spec PyProof.Rows L2
def HasIk (P : Program) (w : World) (K : PySem.W.Frag) (mg : Str → Option Value) (base : Heap) (C : Addr) (x : Str) (k : Nat) (ps : List Str) (S : DSp) (kb : FuncData → Prop) : Prop :=
  ∃ f fd, mg x = some (.ref C) ∧ Mk K C f ∧ Binds K fd ps [] ∧ kb fd ∧ FnOk P w K mg base (L2.CX P w) k f fd ps (spOf K S)
theorem HasIk.i {P : Program} {w : World} {K : PySem.W.Frag} {mg : Str → Option Value} {base : Heap} {C : Addr} {x : Str} {k : Nat} {ps : List Str} {S : DSp} {kb : FuncData → Prop} (h : HasIk P w K mg base C x k ps S kb) : HasI P w K mg base C x k ps S :=
  let ⟨f, fd, h1, h2, h3, _, h5⟩ := h
  ⟨f, fd, h1, h2, h3, h5⟩
def HasMk (P : Program) (w : World) (K : PySem.W.Frag) (mg : Str → Option Value) (base : Heap) (C : Addr) (m : Str) (k : Nat) (ps : List Str) (S : DSp) (kb : FuncData → Prop) : Prop :=
  ∃ f fd, Meth K C m f ∧ Binds K fd ps [] ∧ kb fd ∧ FnOk P w K mg base (L2.CX P w) k f fd ps (spOf K S)
theorem HasMk.i {P : Program} {w : World} {K : PySem.W.Frag} {mg : Str → Option Value} {base : Heap} {C : Addr} {x : Str} {k : Nat} {ps : List Str} {S : DSp} {kb : FuncData → Prop} (h : HasMk P w K mg base C x k ps S kb) : HasM P w K mg base C x k ps S :=
  let ⟨f, fd, h1, h2, _, h5⟩ := h
  ⟨f, fd, h1, h2, h5⟩
def up1 (π : List Nat) : List Nat := 0 :: π.map (· + 1)
theorem pick_up {α : Type} (π : List Nat) (a : α) (l : List α) : pick (up1 π) (a :: l) = a :: pick π l := by
  unfold pick up1
  rw [List.filterMap_cons_some (b := a) (by simp), List.filterMap_map]
  congr 1
/-- the positional arguments and those by keywords, by places -/
def dArgK (π : List Nat) (np nk : Nat) (fr fk : DTA) : DTA := fun Γ μ Q E => fr Γ μ (fun xs μ1 => xs.length = np ∧ fk Γ μ1 (fun ys μ2 => ys.length = nk ∧ Q (pick π (xs ++ ys)) μ2) E) E
section
variable {X : Cx} {W : WX} {k : Nat} {fI C : Addr} {fd : FuncData} {ps ks : List Str} {S : DSp} {x m : Str} {p pos apos : Pos} {o e : Expr} {es : List Expr} {kws : List Keyword} {fo : DTE} {fr fk : DTA} {π : List Nat} {np nk : Nat} {kb : FuncData → Prop}
theorem kb_self (hb : KBd X.K fd ps (np + 1) ks (up1 π)) {s : Shared} {us ws : List Value} (h : X.K.In s.heap) (l1 : us.length = np) (l2 : ws.length = ks.length) (a : Value) : BindsTo s fd ⟨a :: us, ks.zip ws⟩ (ps.zip (a :: pick π (us ++ ws))) := by
  have := hb s (a :: us) ws h (by rw [List.length_cons, l1]) l2
  rwa [List.cons_append, pick_up] at this
theorem de_makeMK0 (h : HasIk X.prog X.w X.K X.mg X.base C x k ps S kb) (hr : Room (k + 1) X.A) (hg : Gl X x) (hb : ∀ fd, kb fd → KBd X.K fd ps 1 ks (up1 π)) (tk : Takes X W) (hkw : DK X W kws fk)
    (hall : (backToKw pos (keywordEach kws X.env)).all (·.1.isSome) = true := by rfl) (hks : (backToKw pos (keywordEach kws X.env)).filterMap (·.1) = ks := by rfl) (hnk : ks.length = nk := by rfl) (hdb : (x == ("__debug__" : Str)) = false := by decide)
    (hpl : ((backTo pos (starEach [] X.env)).any (·.1) || (backToKw pos (keywordEach kws X.env)).any (·.1.isNone)) = false := by rfl) : DE X W (.Call (.Name x p) [] kws pos) (dMakeM C S (dArgK π 0 nk dNil fk)) := by
  subst hnk
  obtain ⟨fI, fd, hm, M, _, hkb, F⟩ := h
  have hb := hb fd hkb
  refine ⟨fun pins s σ H Q I ⟨n, Γ, μ, Qd, Ed, hH, sr, gr, h, hq, hx⟩ => ?_⟩
  subst hH
  refine wpAny_Call_Name_kw (ld_glob I hg hm ?_ hdb)
  let R : List V → Hp → Prop := fun vs H1 => vs.length = ks.length ∧ ∃ n1 ds μ1, n1.H = H1 ∧ SR0 X.K n1 μ1 ∧ Reps X.K n1.Hb n1.al vs ds ∧ LV X.K n1 Qd Q ∧ (∀ n' cls dd x μ', Step n1 n' → SR0 X.K n' μ' → ExR X.K n1 n' cls dd x → Ed x μ' → W cls dd σ n'.H) ∧
    S (.ref μ1.length :: pick π ds) (μ1 ++ [.ins C []]) (fun r μ2 => r = .non ∧ ∃ e loc μ3, μ2 = μ3 ++ loc ∧ Upd μ1 μ3 ∧ Fz μ3.length (μ3 ++ loc) (.ref μ1.length) e ∧ Qd e μ3) (fun x μ2 => ∃ loc μ3, μ2 = μ3 ++ loc ∧ Upd μ1 μ3 ∧ D.puF x.fs = true ∧ Ed x μ3)
  refine PySem.W.callWith_KW0 (h₀ := X.base) I.ok.mod.kin M.kp hall (thn (hkw.run pos pins s σ n.H R I (liftA_go sr gr h.2 (fun n1 vs ds μ1 s1 r1 p1 q1 => ⟨p1.length.trans q1.1, n1, ds, μ1, rfl, r1, p1, LV.step hq s1, hx.step s1, q1.2⟩) hx)) ?_) hpl
  rintro ws s1 ⟨vs, H1, I1, r, hl, n1, ds, μ1, rfl, r1, p1, hq1, hx1, q1⟩
  refine ⟨I1.kIn, ?_⟩
  rw [hks]
  exact run_makeM (us := []) (ws := pick π ws) (vs := pick π vs) M F hr (fun s' a hk => kb_self (np := 0) hb hk rfl (r.length ▸ hl) (.ref a)) tk I1 (vals_pick r π) r1 (p1.pick π) q1 hq1 hx1
/-- o.m(.., k = v, ..) -/
theorem de_methK0 {pl : Sem Bool} (c : Cls X.K C) (h : HasMk X.prog X.w X.K X.mg X.base C m k ps S kb) (hr : Room k X.A) (hb : ∀ fd, kb fd → KBd X.K fd ps 1 ks (up1 π)) (tk : Takes X W) (he : DE X W o fo) (hkw : DK X W kws fk)
    (hall : (backToKw pos (keywordEach kws X.env)).all (·.1.isSome) = true := by rfl) (hks : (backToKw pos (keywordEach kws X.env)).filterMap (·.1) = ks := by rfl) (hnk : ks.length = nk := by rfl)
    (hpl : ((backTo pos (starEach [] X.env)).any (·.1) || (backToKw pos (keywordEach kws X.env)).any (·.1.isNone)) = false := by rfl)
    (ht : eval (.Call (.Attribute o m apos) [] kws pos) X.env = (do let ov ← eval o X.env; standAt apos.atName; let (f, first) ← holding [ov] (getMethod ov m pl); callWith pos f first (backTo pos (starEach [] X.env)) (backToKw pos (keywordEach kws X.env))) := by rfl) :
    DE X W (.Call (.Attribute o m apos) [] kws pos) (dMethod C m S fo (dArgK π 0 nk dNil fk)) := by
  subst hnk
  obtain ⟨g, fd, hm, _, hkb, F⟩ := h
  have hb := hb fd hkb
  refine ⟨fun pins s σ H Q I ⟨n, Γ, μ, Qd, Ed, hH, sr, gr, h, hq, hx⟩ => ?_⟩
  subst hH
  let R : V → Hp → Prop := fun v H1 => ∃ n1 d μ1, n1.H = H1 ∧ SR0 X.K n1 μ1 ∧ Rep X.K n1.Hb n1.al v d ∧ Step n n1 ∧ isIns μ1 C m d ∧ fk Γ μ1 (fun ys μ2 => ys.length = ks.length ∧ S (d :: pick π ys) μ2 Qd Ed) Ed
  refine PySem.W.methodCall_KW (pl := pl) (thn (he.run pins s σ n.H R I (lift_go sr gr h (fun n1 v d μ1 s1 r1 p1 q1 => ⟨n1, d, μ1, rfl, r1, p1, s1, q1.1, q1.2.2⟩) hx)) ?_) ht
  rintro u s1 ⟨v, H1, I1, rv, n1, d, μ1, rfl, r1, p1, s1', hi, q1⟩
  obtain ⟨a, dx, us, rfl, h1, h2⟩ := isIns_at r1 p1 hi
  cases rv
  refine getmeth_ok I1 h1 c hm h2 ?_
  refine PySem.W.callWith_KW0 (first := [.ref a]) (h₀ := X.base) I.ok.mod.kin hm.kp hall (thn (hkw.run pos pins s1 σ n1.H (fun vs H2 => vs.length = ks.length ∧ spOf X.K S (.ref a :: pick π vs) H2 Q (WE W σ)) I1 (liftA_go r1 (gr.step s1') q1 (fun n2 vs ds μ2 s2 r2 p2 q2 => ?_) (hx.step s1'))) ?_) hpl
  · exact ⟨p2.length.trans q2.1, n2, d :: pick π ds, μ2, Qd, Ed, rfl, r2, .cons (s2.rep p1) (p2.pick π), q2.2, LV.step hq (s1'.trans s2), (hx.step s1').step s2⟩
  · rintro ws s2 ⟨vs, H2, I2, r, hl, q2⟩
    refine ⟨I2.kIn, ?_⟩
    rw [hks]
    have rr : Vals (V.ref a :: pick π vs) (Value.ref a :: pick π ws) := .cons rfl (vals_pick r π)
    exact run_deep (us := [.ref a] ++ []) (ws := .ref a :: pick π ws) F hr tk I2 (kb_self (np := 0) (us := []) hb I2.kIn rfl (r.length ▸ hl) (.ref a)) rr q2
end
end DV
namespace DV
open PySem PySem.Spec PyProof.Rows L2
/-! the law's look at one power -/
end DV
namespace DV
open PySem PySem.Spec PyProof.Rows L2
def ML (c : Nat) (ws : List Str) : Mu := [.orc (c, true), .lst (ws.map .str)]
theorem draw_ML {c : Nat} {ws : List Str} {m : Int} {Q : D → Mu → Prop} {E : Exn → Mu → Prop} (hc : 0 < c) (hm : 0 < m) (hm2 : m.natAbs < 2 ^ 60) (q : ∀ d, 0 ≤ d → d < m → Q (.int d) (ML (c - 1) ws)) : S_draw [.ref 0, .int m] (ML c ws) Q E :=
  draw_M (μ := ML c ws) (l := 0) (c := c) (by show 0 < 2; omega) hc hm hm2 q
end DV
namespace DV
open PySem PySem.Spec PyProof.Rows L2
theorem asc_ch {x : Str} (h : asc x) : ∀ c ∈ x.cps.toList, asc ⟨#[c]⟩ := fun c hc => by
  intro e he
  have : e ∈ [c] := he
  rw [List.mem_singleton.mp this]
  exact h c hc
theorem okp_set3 {ws : List Str} {j : Nat} {z : Str} (h : Okp 8 ws) (hz : asc z) (hl : z.length ≤ 100) : Okp 8 (ws.set j z) := by
  refine ⟨by rw [List.length_set]; exact h.len, fun x hx => ?_, fun x hx => ?_⟩
  · rcases List.mem_or_eq_of_mem_set hx with h1 | rfl
    · exact h.ok x h1
    · exact hz
  · rcases List.mem_or_eq_of_mem_set hx with h1 | rfl
    · exact h.sl x h1
    · exact hl
theorem atI_six3 {a b c d e f : D} {i : Int} (h0 : 0 ≤ i) (h6 : i < 6) {P : D → Prop} (h : P a ∧ P b ∧ P c ∧ P d ∧ P e ∧ P f) : ∃ x, atI [a, b, c, d, e, f] i = some x ∧ P x := by
  obtain ⟨h1, h2, h3, h4, h5, h6'⟩ := h
  have : i = 0 ∨ i = 1 ∨ i = 2 ∨ i = 3 ∨ i = 4 ∨ i = 5 := by omega
  rcases this with rfl | rfl | rfl | rfl | rfl | rfl
  · exact ⟨_, rfl, h1⟩
  · exact ⟨_, rfl, h2⟩
  · exact ⟨_, rfl, h3⟩
  · exact ⟨_, rfl, h4⟩
  · exact ⟨_, rfl, h5⟩
  · exact ⟨_, rfl, h6'⟩
/-! the dict that is made of the pairs -/
theorem merge_g : ∀ (ps : List (Str × Int)) (ks : List Str) (v : Str → D), ks.Nodup → (∀ x, ∃ i, v x = .int i) →
    ∃ ks' v', mergeKD (gL ks v) (ps.map fun p => (.inr p.1, .int p.2)) = gL ks' v' ∧ ks'.Nodup ∧ (∀ x, x ∈ ks' ↔ x ∈ ks ∨ x ∈ ps.map (·.1)) ∧ ∀ x, ∃ i, v' x = .int i
  | [], ks, v, h, hv => ⟨ks, v, rfl, h, fun x => by simp, hv⟩
  | (x, i) :: ps, ks, v, h, hv => by
    have hn : (lkPut ks x).Nodup := by
      unfold lkPut
      split
      · exact h
      · rename_i hx
        exact List.nodup_append.mpr ⟨h, by simp, fun a ha b hb e => hx (by rw [List.mem_singleton] at hb; subst hb; exact e ▸ ha)⟩
    have hv2 : ∀ y, ∃ j, upV v x (.int i) y = .int j := fun y => by
      unfold upV
      split
      · exact ⟨i, rfl⟩
      · exact hv y
    obtain ⟨ks', v', e, h1, h2, h3⟩ := merge_g ps (lkPut ks x) (upV v x (.int i)) hn hv2
    refine ⟨ks', v', ?_, h1, fun y => ?_, h3⟩
    · unfold mergeKD at e ⊢
      rw [List.map_cons, List.foldl_cons]
      dsimp only
      rw [put_g]
      exact e
    · rw [h2 y]
      unfold lkPut
      split
      · rename_i hx
        simp only [List.map_cons, List.mem_cons]
        constructor
        · rintro (z | z)
          · exact .inl z
          · exact .inr (.inr z)
        · rintro (z | z | z)
          · exact .inl z
          · exact .inl (z ▸ hx)
          · exact .inr z
      · simp only [List.map_cons, List.mem_cons, List.mem_append, List.mem_singleton, List.not_mem_nil, or_false, or_assoc]
theorem pairs_g : ∀ ps : List (Str × Int), pairsD (ps.map fun p => .tup [.str p.1, .int p.2]) = some (ps.map fun p => (.inr p.1, .int p.2))
  | [] => rfl
  | (x, i) :: ps => by rw [List.map_cons, List.map_cons]; unfold pairsD; rw [pairs_g ps]; rfl
/-! equality -/
theorem g_nodup {ks : List Str} {v : Str → D} (h : ks.Nodup) : ((gL ks v).map (·.1)).Nodup := by
  unfold gL
  rw [List.map_map]
  exact List.Pairwise.map _ (fun a b hab e => hab (by injection e)) h
theorem dctT_refl {f : D → D → Option Bool} {ks' : List Str} {v : Str → D} : ∀ ks : List Str, (∀ x ∈ ks, x ∈ ks' ∧ f (v x) (v x) = some true) → dctT f (gL ks' v) (gL ks v) = some true
  | [], _ => rfl
  | x :: ks, h => by
    have ih := dctT_refl (f := f) (ks' := ks') (v := v) ks fun y hy => h y (List.mem_cons_of_mem _ hy)
    obtain ⟨h1, h2⟩ := h x List.mem_cons_self
    unfold gL at ih ⊢
    rw [List.map_cons]
    unfold dctT
    have e : lookD (ks'.map fun x => ((Sum.inr x : Key), v x)) (.inr x) = if x ∈ ks' then some (v x) else none := val_g ks' v x
    rw [e, if_pos h1]
    dsimp only
    rw [h2, ih]; rfl
theorem deqT_okn {k : Nat} {d : D} (h : D.okn k d = true) : deqT k d d = some true := by
  cases k with
  | zero => unfold deqT; rw [h]; simp only [Bool.and_self, cond_true]; exact congrArg some (SeqAt.eqv_refl _ (okn_lay _ d h).1)
  | succ k => unfold deqT; rw [h]; simp only [Bool.and_self, cond_true]; exact congrArg some (SeqAt.eqv_refl _ (okn_lay _ d h).1)
theorem okV.okn {d : D} (h : okV d) : D.okn 10 d = true := h.cases (P := fun d => D.okn 10 d = true) (fun _ => rfl) rfl rfl (by decide +kernel) rfl rfl rfl (by decide +kernel)
theorem okV.okn11 {d : D} (h : okV d) : D.okn 11 d = true := h.cases (P := fun d => D.okn 11 d = true) (fun _ => rfl) rfl rfl (by decide +kernel) rfl rfl rfl (by decide +kernel)
theorem okV.good {d : D} (h : okV d) : goodF 10 d = true := h.cases (P := fun d => goodF 10 d = true) (fun _ => rfl) rfl rfl rfl rfl rfl rfl rfl
theorem neD_g {μ : Mu} {d d' : D} {ks ks' : List Str} {v : Str → D} {Q : D → Mu → Prop} (e1 : lk μ d = .dct (gL ks v)) (e2 : lk μ d' = .dct (gL ks' v)) (hp : ks.Perm ks') (h2 : ks'.Nodup) (hv : ∀ x ∈ ks, okV (v x)) (q : Q (.bl false) μ) : gNeD d d' μ Q := by
  refine ⟨_, _, e1, e2, g_nodup (hp.nodup_iff.mpr h2), g_nodup h2, true, dctT_refl ks fun x hx => ⟨hp.mem_iff.mp hx, deqT_okn (hv x hx).okn11⟩, ?_⟩
  rw [g_len, g_len, decide_eq_true hp.length_eq]
  exact q
/-- what stands first in what is told -/
theorem res3_none {ks : List Str} {v : Str → D} {kvs : List (Key × D)} (h : initX ks v = none) : res3 ks v kvs = .lst [.str (Str.ofString "wishes"), tupS (sortS ks), .dct kvs] := by
  unfold initX at h
  unfold res3
  split at h
  · rename_i hl
    rw [if_pos hl]
    split at h
    · cases h
    · rename_i hf
      rw [Option.map_eq_none_iff] at h
      first
        | (rw [hf]; dsimp only; rw [h])
        | rw [h]
  · cases h
theorem res3_some {ks : List Str} {v : Str → D} {kvs kvs' : List (Key × D)} {x : Exn} (hk : GOk ks v) (h : initX ks v = some x) : res3 ks v kvs = res3 ks v kvs' ∧ ∃ s r, res3 ks v kvs = .lst (.str s :: r) ∧ asc s ∧ s ≠ Str.ofString "wishes" ∧ D.okn 12 (.lst (.str s :: r)) = true ∧ goodF 12 (.lst (.str s :: r)) = true := by
  have pm := sortS_perm ks
  unfold res3
  rcases init_some h with ⟨h0, -⟩ | ⟨h0, y, hy, -⟩ | ⟨h0, hn, y, hy, -⟩
  · rw [if_neg h0, if_neg h0]
    exact ⟨rfl, _, _, rfl, asc_dec (by decide +kernel), by decide +kernel, by
      show (D.okn 11 (.str (Str.ofString "count")) && (true && true)) = true
      decide +kernel, rfl⟩
  · rw [if_pos h0, if_pos h0, hy]
    have ha := (hk.z y (pm.mem_iff.mp (List.mem_of_find?_eq_some hy))).2.1
    refine ⟨rfl, _, _, rfl, asc_dec (by decide +kernel), by decide +kernel, ?_, rfl⟩
    have h1 : D.okn 11 (.str y) = true := asc_ok ha
    show (D.okn 11 (.str (Str.ofString "name")) && (D.okn 11 (.str y) && true)) = true
    rw [h1]; decide +kernel
  · rw [if_pos h0, if_pos h0, hn]
    dsimp only
    rw [hy]
    have hv := hk.v y (pm.mem_iff.mp (List.mem_of_find?_eq_some hy))
    refine ⟨rfl, _, _, rfl, asc_dec (by decide +kernel), by decide +kernel, ?_, ?_⟩
    · show (D.okn 11 (.str (Str.ofString "wish")) && (D.okn 11 (v y) && (true && true))) = true
      rw [hv.okn11]; decide +kernel
    · show (true && (goodF 11 (v y) && (true && true))) = true
      rw [goodF_mono (by omega : 10 ≤ 11) hv.good]; rfl
theorem goodF_g {ks : List Str} {v : Str → D} {k : Nat} (h : ∀ x ∈ ks, goodF k (v x) = true) : goodF (k + 1) (.dct (gL ks v)) = true := by
  refine List.all_eq_true.mpr fun f hf => ?_
  unfold gL at hf
  obtain ⟨x, hx, rfl⟩ := List.mem_map.mp hf
  exact h x hx
theorem goodF_tupS (k : Nat) (ws : List Str) : goodF (k + 1) (tupS ws) = true := by
  refine List.all_eq_true.mpr fun f hf => ?_
  obtain ⟨x, _, rfl⟩ := List.mem_map.mp hf
  cases k <;> rfl
theorem res3_same {μ : Mu} {ks : List Str} {v : Str → D} {Q : D → Mu → Prop} (hk : GOk ks v) (q : Q (.bl false) μ) : gNeVL (res3 ks v (gL (sortS ks) v)) (res3 ks v (gL ks v)) μ Q := by
  have pm := sortS_perm ks
  cases hi : initX ks v with
  | some x =>
    obtain ⟨e, s, r, e2, -, -, ho, hg⟩ := res3_some (kvs := gL (sortS ks) v) (kvs' := gL ks v) hk hi
    rw [← e, e2]
    have fz := goodF_frz (μ := μ) 12 _ hg
    refine ⟨by rw [fz]; exact hg, by rw [fz]; exact hg, _, _, true, fz, fz, rfl, by rw [fz]; exact deqW_okn ho, q⟩
  | none =>
    obtain ⟨hN, hI⟩ := init_none hi hk.nd
    rw [res3_none hi, res3_none hi]
    have g1 : ∀ l : List Str, (∀ x ∈ l, x ∈ ks) → goodF 12 (.lst [.str (Str.ofString "wishes"), tupS (sortS ks), .dct (gL l v)]) = true := fun l hl => by
      show (true && (goodF 11 (tupS (sortS ks)) && (goodF 11 (.dct (gL l v)) && true))) = true
      rw [goodF_tupS, goodF_g fun x hx => (hk.v x (hl x hx)).good]; rfl
    have ga := g1 (sortS ks) fun x hx => pm.mem_iff.mp hx
    have gb := g1 ks fun x hx => hx
    have fa := goodF_frz (μ := μ) 12 _ ga
    have fb := goodF_frz (μ := μ) 12 _ gb
    refine ⟨by rw [fa]; exact ga, by rw [fb]; exact gb, _, _, true, fa, fb, rfl, ?_, q⟩
    rw [fa, fb]
    have w1 : deqW 11 (.str (Str.ofString "wishes")) (.str (Str.ofString "wishes")) = some true := deqW_okn (by decide +kernel)
    have w2 : deqW 11 (tupS (sortS ks)) (tupS (sortS ks)) = some true := deqW_okn (okn_strs (fun x hx => hN.sort.asc hx) 10)
    have w3 : deqW 11 (.dct (gL (sortS ks) v)) (.dct (gL ks v)) = some true := by
      unfold deqW
      rw [show (D.okn (10 + 1) (.dct (gL (sortS ks) v)) && D.okn (10 + 1) (.dct (gL ks v))) = false from rfl, cond_false]
      rw [if_neg (fun z => z.1 rfl)]
      dsimp only
      rw [if_pos ⟨g_nodup (pm.nodup_iff.mpr hk.nd), g_nodup hk.nd⟩, dctT_refl (sortS ks) (fun x hx => ⟨pm.mem_iff.mp hx, deqW_okn (hk.v x (pm.mem_iff.mp hx)).okn⟩), g_len, g_len, decide_eq_true pm.length_eq]
      rfl
    unfold deqW
    rw [show (D.okn (11 + 1) (.lst [.str (Str.ofString "wishes"), tupS (sortS ks), .dct (gL (sortS ks) v)]) && D.okn (11 + 1) (.lst [.str (Str.ofString "wishes"), tupS (sortS ks), .dct (gL ks v)])) = false from ?_, cond_false]
    · rw [if_neg (fun z => z.1 rfl)]
      dsimp only
      rw [if_pos (show [D.str (Str.ofString "wishes"), tupS (sortS ks), D.dct (gL (sortS ks) v)].length = [D.str (Str.ofString "wishes"), tupS (sortS ks), D.dct (gL ks v)].length from rfl)]
      simp only [allT, w1, w2, w3]
      rfl
    · have : D.okn 11 (.dct (gL (sortS ks) v)) = false := rfl
      show ((D.okn 11 (.str (Str.ofString "wishes")) && (D.okn 11 (tupS (sortS ks)) && (D.okn 11 (.dct (gL (sortS ks) v)) && true))) && _) = false
      rw [this]
      simp
end DV
namespace DV
open PySem PySem.Spec PyProof.Rows L2
def S_law : DSp := fun ds μ Q _ => ∃ ns : List Int, ds = [.scr ns] ∧ ns.length ≤ 63 ∧ μ = [] ∧ ∀ μ', Q (.bl true) μ'
def t_law_f0 (C : Cs) : DTS := dIf (dTest (dBin gNe (dVar 2) (dCall gLst (dNil)))) (dAsg (dBin gIx (dCall gLst (dCons (dC (.str "")) (dCons (dC (.str "X")) (dCons (dC (.str "1a")) (dCons (dC (.str "abcdefg")) (dCons (dC (.str "aB")) (dCons (dC (.str "a b")) (dNil)))))))) (dOp S_draw (dCons (dVar 1) (dCons (dC (.int 6)) (dNil))))) (dSetI (dVar 2) (dOp S_draw (dCons (dVar 1) (dCons (dCall gLen (dCons (dVar 2) dNil)) (dNil)))))) (dNext)
def t_law_f1 (C : Cs) : DTS := dIf (dTest (dBin gNe (dVar 2) (dCall gLst (dNil)))) (dAsg (dOp S_l_odd3 (dCons (dVar 1) (dNil))) (dSetD (dVar 5) (dBin gIx (dVar 2) (dOp S_draw (dCons (dVar 1) (dCons (dCall gLen (dCons (dVar 2) dNil)) (dNil))))))) (dNext)
def t_law_16 (C : Cs) : DTS := dRet (dAnd (dBin (gIsB false) (dMethod C.W "prefers" (S_W_prefersX C) (dVar 8) (dArgK [1, 0] 0 2 (dNil) (dCons (dVar 10) (dCons (dVar 10) (dNil))))) (dC (.bl false))) (dBin gEq (dMethod C.W "best" (S_W_best C) (dVar 8) (dArgK [0] 0 1 (dNil) (dCons (dCall gLst (dCons (dVar 10) (dNil))) (dNil)))) (dCall gTup (dCons (dVar 10) (dNil)))))
def t_law_15 (C : Cs) : DTS := dSeq (dAsg (dBin gIx (dCall (gSortedD true) (dCons (dVar 5) dNil)) (dC (.int 0))) (dName 10)) (t_law_16 C)
def t_law_14 (C : Cs) : DTS := dSeq (dIf (dOrT (dTest (dBin gNeD (dMethod C.W "amounts" (S_W_amountsC C) (dVar 8) dNil) (dVar 5))) (dNotT (dTest (dOp (S_l_right3 C) (dCons (dVar 1) (dCons (dVar 8) (dCons (dVar 5) (dNil)))))))) (dRet (dC (.bl false))) (dNext)) (t_law_15 C)
def t_law_13 (C : Cs) : DTS := dSeq (dAsg (dC (.int 1)) (dSetD (dVar 9) (dC (.str "zz9")))) (t_law_14 C)
def t_law_12 (C : Cs) : DTS := dSeq (dAsg (dMethod C.W "amounts" (S_W_amountsC C) (dVar 8) dNil) (dName 9)) (t_law_13 C)
def t_law_11 (C : Cs) : DTS := dSeq (dDrop (dClearD (dVar 6))) (t_law_12 C)
def t_law_10 (C : Cs) : DTS := dSeq (dAsg (dMakeM C.W (S_W_initE C) (dArgK [0] 0 1 (dNil) (dCons (dVar 6) (dNil)))) (dName 8)) (t_law_11 C)
def t_law_9 (C : Cs) : DTS := dSeq (dIf (dTest (dBin gNe (dBin gIx (dVar 7) (dC (.int 0))) (dC (.str "wishes")))) (dRet (dC (.bl true))) (dNext)) (t_law_10 C)
def t_law_8 (C : Cs) : DTS := dSeq (dIf (dOrT (dTest (dBin gNeVL (dOp (S_l_made3 C) (dCons (dVar 6) (dNil))) (dVar 7))) (dTest (dBin gNeD (dVar 6) (dVar 5)))) (dRet (dC (.bl false))) (dNext)) (t_law_9 C)
def t_law_7 (C : Cs) : DTS := dSeq (dAsg (dOp S_l_due3 (dCons (dVar 5) (dNil))) (dName 7)) (t_law_8 C)
def t_law_6 (C : Cs) : DTS := dSeq (dThaw 5 (dAsg (dCall (gDictC false) (dCons (dVar 5) dNil)) (dName 6))) (t_law_7 C)
def t_law_5 (C : Cs) : DTS := dSeq (dFor (dRange1 (dBin gIx (dCall gLst (dCons (dC (.int 0)) (dCons (dC (.int 0)) (dCons (dC (.int 1)) (dCons (dC (.int 2)) (dNil)))))) (dOp S_draw (dCons (dVar 1) (dCons (dC (.int 4)) (dNil)))))) (dName 3) (t_law_f1 C)) (t_law_6 C)
def t_law_4 (C : Cs) : DTS := dSeq (dAsg (dCall (gDictP false) (dCons (dComp true [11] (dIter (dVar 2)) (cName 11) (dYes) (dCall gTup (dCons (dVar 11) (dCons (dBin gMul (dOp S_draw (dCons (dVar 1) (dCons (dVar 4) (dNil)))) (dBin gIx (dCall gLst (dCons (dC (.int 1)) (dCons (dUn gNeg (dC (.int 1))) (dNil)))) (dOp S_draw (dCons (dVar 1) (dCons (dC (.int 2)) (dNil)))))) (dNil))))) dNil)) (dName 5)) (t_law_5 C)
def t_law_3 (C : Cs) : DTS := dSeq (dAsg (dBin gIx (dCall gLst (dCons (dC (.int 3)) (dCons (dC (.int 10)) (dCons (dBin gPow (dC (.int 10)) (dC (.int 20))) (dNil))))) (dOp S_draw (dCons (dVar 1) (dCons (dC (.int 3)) (dNil))))) (dName 4)) (t_law_4 C)
def t_law_2 (C : Cs) : DTS := dSeq (dFor (dRange1 (dBin gIx (dCall gLst (dCons (dC (.int 0)) (dCons (dC (.int 0)) (dCons (dC (.int 0)) (dCons (dC (.int 0)) (dCons (dC (.int 1)) (dCons (dC (.int 2)) (dNil)))))))) (dOp S_draw (dCons (dVar 1) (dCons (dC (.int 6)) (dNil)))))) (dName 3) (t_law_f0 C)) (t_law_3 C)
def t_law_1 (C : Cs) : DTS := dSeq (dAsg (dOp S_order24 (dCons (dVar 1) (dCons (dOp S_names (dCons (dVar 1) (dCons (dBin gIx (dCall gLst (dCons (dC (.int 1)) (dCons (dC (.int 2)) (dCons (dC (.int 3)) (dCons (dC (.int 4)) (dCons (dC (.int 5)) (dCons (dC (.int 6)) (dCons (dC (.int 6)) (dCons (dC (.int 7)) (dCons (dC (.int 0)) (dNil))))))))))) (dOp S_draw (dCons (dVar 1) (dCons (dC (.int 9)) (dNil))))) (dNil)))) (dNil)))) (dName 2)) (t_law_2 C)
def t_law (C : Cs) : DTS := dSeq (dAsg (dOp S_start (dCons (dVar 0) (dNil))) (dName 1)) (t_law_1 C)
def M3 (c : Nat) (ws : List Str) (x y : Cell) : Mu := [.orc (c, true), .lst (ws.map .str), x, y]
theorem law03_7 {C : Cs} {c : Nat} {ws ks : List Str} {v : Str → D} {a0 a2 a3 a4 a7 a8 a9 a10 a11 : Option D} {Q : D → Mu → Prop} {E : Exn → Mu → Prop} (hk : GOk ks v) (hc : 1000 ≤ c) (q : ∀ μ, Q (.bl true) μ) :
    t_law_7 C (dFn [] Q E) [a0, some (.ref 0), a2, a3, a4, some (.dct (gL ks v)), some (.ref 3), a7, a8, a9, a10, a11] (M3 c ws .gone (.dct (gL ks v))) := by
  have pm := sortS_perm ks
  have sl := pm.length_eq
  unfold t_law_7
  rw [dSeq]
  simp only [dAsg, dOp, dCons, dNil, dVar, List.getElem?_cons_zero, List.getElem?_cons_succ]
  refine ⟨ks, v, rfl, hk, ?_⟩
  simp only [dName, List.set_cons_succ, List.set_cons_zero]
  have lk3 : lk (M3 c ws .gone (.dct (gL ks v))) (.ref 3) = .dct (gL ks v) := rfl
  unfold t_law_8
  try dsimp only
  rw [dSeq]
  simp only [dIf, dOrT, dTest, dBin, dOp, dCons, dNil, dVar, List.getElem?_cons_zero, List.getElem?_cons_succ]
  refine ⟨.ref 3, ks, v, rfl, fun _ => rfl, hk, ?_⟩
  refine res3_same hk ?_
  simp only [cond_false]
  refine neD_g lk3 rfl (List.Perm.refl _) hk.nd hk.v ?_
  simp only [cond_false, dNext]
  unfold t_law_9
  try dsimp only
  rw [dSeq]
  simp only [dIf, dTest, dBin, dC, dVar, List.getElem?_cons_zero, List.getElem?_cons_succ]
  have aw : asc (Str.ofString "wishes") := asc_dec (by decide +kernel)
  cases hi : initX ks v with
  | some x =>
    obtain ⟨-, s, r, e2, has, hne, -, -⟩ := res3_some (kvs := gL ks v) (kvs' := gL ks v) hk hi
    rw [e2]
    simp only [gIx, lk, atI_zero]
    obtain ⟨d1, d2⟩ := deq_str (μ := M3 c ws .gone (.dct (gL ks v))) has aw
    simp only [gNe]
    refine ⟨d1, ?_⟩
    rw [d2, decide_eq_false hne]
    simp only [Bool.not_false, cond_true, dRet, dC]
    exact FnEnd.here (q _)
  | none =>
  rw [res3_none hi]
  simp only [gIx, lk, atI_zero]
  obtain ⟨d1, d2⟩ := deq_str (μ := M3 c ws .gone (.dct (gL ks v))) aw aw
  simp only [gNe]
  refine ⟨d1, ?_⟩
  rw [d2, decide_eq_true rfl]
  simp only [Bool.not_true, cond_false, dNext]
  obtain ⟨hN, hI⟩ := init_none hi hk.nd
  have hs := hN.sort
  have l1 := hN.l1
  have l6 := hN.l6
  have hg : gL ks v = lkL ks (uV v) := g_lk hI
  unfold t_law_10
  try dsimp only
  rw [dSeq]
  simp only [dAsg, dMakeM, dArgK, dCons, dNil, dVar, List.getElem?_cons_zero, List.getElem?_cons_succ]
  refine ⟨rfl, rfl, ?_⟩
  show S_W_initE C (.ref (M3 c ws .gone (.dct (gL ks v))).length :: [.ref 3]) _ _ _
  refine make_wishE (fun _ => rfl) hk (fun x hx => by rw [hi] at hx; cases hx) fun _ => ?_
  simp only [dName, List.set_cons_succ, List.set_cons_zero]
  generalize uV v = u at hg ⊢
  unfold t_law_11
  try dsimp only
  rw [dSeq]
  simp only [dDrop, dClearD, dVar, List.getElem?_cons_zero, List.getElem?_cons_succ, show (M3 c ws .gone (.dct (gL ks v)))[3]? = some (.dct (gL ks v)) from rfl]
  show t_law_12 C _ _ (M3 c ws .gone (.dct []))
  unfold t_law_12
  rw [dSeq]
  simp only [dAsg, dMethod, dNil, dVar, List.getElem?_cons_zero, List.getElem?_cons_succ]
  refine ⟨w_own (by decide +kernel), sortS ks, u, rfl, .inr ?_⟩
  simp only [dName, List.set_cons_succ, List.set_cons_zero]
  unfold t_law_13
  try dsimp only
  rw [dSeq]
  simp only [dAsg, dC, dSetD, dVar, List.getElem?_cons_zero, List.getElem?_cons_succ]
  show (lkL (sortS ks) u).length < sizeLine ∧ _
  refine ⟨by unfold lkL; rw [List.length_map, sl, sizeLine_eq]; omega, ?_⟩
  obtain ⟨kvs, hkv⟩ : ∃ kvs, kvs = putKD (lkL (sortS ks) u) (.inr (Str.ofString "zz9")) (.int 1) := ⟨_, rfl⟩
  have e4 : (M3 c ws .gone (.dct []) ++ [Cell.dct (lkL (sortS ks) u)]).set (M3 c ws .gone (.dct [])).length (.dct (putKD (lkL (sortS ks) u) (.inr (Str.ofString "zz9")) (.int 1))) = M3 c ws .gone (.dct []) ++ [.dct kvs] := by rw [hkv]; rfl
  rw [e4, hg]
  obtain ⟨ext, hext⟩ : ∃ ext, ext = [Cell.dct kvs] := ⟨_, rfl⟩
  rw [← hext]
  have hlt : 0 < (M3 c ws .gone (.dct []) ++ ext).length := by rw [List.length_append]; show 0 < 4 + _; omega
  have hM : M3 c ws .gone (.dct []) ++ ext = M (M3 c ws .gone (.dct []) ++ ext) 0 c := rfl
  unfold t_law_14
  try dsimp only
  rw [dSeq]
  simp only [dIf, dOrT, dNotT, dTest, dBin, dMethod, dOp, dCons, dNil, dVar, List.getElem?_cons_zero, List.getElem?_cons_succ]
  refine ⟨w_own (by decide +kernel), sortS ks, u, rfl, .inl ?_⟩
  refine neD_lk rfl rfl hs.nd hN.nd ?_
  have e5 : eqLk (sortS ks) u ks u = true := by
    unfold eqLk
    rw [decide_eq_true sl, Bool.true_and, List.all_eq_true]
    exact fun x hx => by rw [decide_eq_true (pm.mem_iff.mp hx), decide_eq_true rfl]; rfl
  rw [e5]
  simp only [Bool.not_true, cond_false]
  refine ⟨0, c, ks, u, rfl, rfl, by omega, hN, fun c' => ?_⟩
  simp only [Bool.not_true, cond_false, dNext]
  obtain ⟨x0, r0, hx0⟩ : ∃ x0 r0, sortS ks = x0 :: r0 := by cases e : sortS ks with
    | nil => rw [e] at sl; simp at sl; omega
    | cons a r => exact ⟨a, r, rfl⟩
  have m0 : x0 ∈ sortS ks := by rw [hx0]; exact List.mem_cons_self
  unfold t_law_15
  try dsimp only
  rw [dSeq]
  simp only [dAsg, dBin, dCall, dCons, dNil, dC, dVar, List.getElem?_cons_zero, List.getElem?_cons_succ, gSortedD, lk, keys_lk]
  refine ⟨by omega, ?_⟩
  simp only [dFin]
  have i0 : ∀ (Q' : D → Mu → Prop) μ', gIx (.lst ((sortS ks).map .str)) (.int 0) μ' Q' = Q' (.str x0) μ' := fun Q' μ' => by rw [hx0, List.map_cons]; unfold gIx; simp only [lk, atI_zero]
  rw [i0]
  simp only [dName, List.set_cons_succ, List.set_cons_zero]
  unfold t_law_16
  simp only [dRet, dAnd, dBin, dMethod, dArgK, dCall, dCons, dNil, dC, dVar, List.getElem?_cons_zero, List.getElem?_cons_succ]
  refine ⟨w_own (by decide +kernel), rfl, rfl, sortS ks, u, x0, x0, rfl, fun x hx => ?_, fun _ _ => ?_⟩
  · have h1 := List.find?_some hx
    have h2 := List.mem_of_find?_eq_some hx
    simp only [List.mem_cons, List.not_mem_nil, or_false, or_self] at h2
    subst h2
    exact absurd m0 (by simpa using h1)
  have db : decide (u x0 < u x0) = false := decide_eq_false (by omega)
  rw [db]
  simp only [gIsB, decide_true, cond_true, beq_self_eq_true]
  simp only [gLst]
  refine ⟨w_own (by decide +kernel), rfl, by rw [sizeLine_eq]; simp, rfl, sortS ks, u, _, [x0], rfl, .inl rfl, by simp, by omega, (fun z => by cases z), fun x hx => ?_, fun _ _ => ?_⟩
  · have h1 := List.find?_some hx
    have h2 := List.mem_of_find?_eq_some hx
    rw [List.mem_singleton] at h2
    subst h2
    exact absurd m0 (by simpa using h1)
  have eb : bestL (sortS ks) u [x0] = [x0] := by
    unfold bestL
    have nd := hs.nd
    rw [hx0] at nd ⊢
    rw [List.filter_cons]
    have hmx : maxI ([x0].map u) = u x0 := maxI_eq (by simp) (by simp)
    rw [hmx, if_pos (by simp), List.filter_eq_nil_iff.mpr]
    intro y hy
    have : y ≠ x0 := fun z => (List.nodup_cons.mp nd).1 (z ▸ hy)
    simp [this]
  rw [eb]
  obtain ⟨d1, d2⟩ := deq_tupS (μ := M (M3 c ws .gone (.dct []) ++ ext) 0 c') (xs := [x0]) (ys := [x0]) (fun x hx => by rw [List.mem_singleton.mp hx]; exact hs.asc m0) (fun x hx => by rw [List.mem_singleton.mp hx]; exact hs.asc m0)
  simp only [gTup]
  refine ⟨by rw [sizeLine_eq]; simp, ?_⟩
  simp only [gEq]
  refine ⟨d1, ?_⟩
  rw [show deq (M (M3 c ws .gone (.dct []) ++ ext) 0 c') (tupS [x0]) (.tup [.str x0]) = true from by rw [show (D.tup [.str x0]) = tupS [x0] from rfl]; exact d2.trans (decide_eq_true rfl)]
  exact FnEnd.here (q _)
theorem ix4 {i : Int} (h0 : 0 ≤ i) (h1 : i < 4) : ∃ n : Nat, atI [D.int 0, D.int 0, D.int 1, D.int 2] i = some (.int (n : Int)) ∧ n ≤ 2 := by
  have : i = 0 ∨ i = 1 ∨ i = 2 ∨ i = 3 := by omega
  rcases this with rfl | rfl | rfl | rfl
  · exact ⟨0, rfl, by omega⟩
  · exact ⟨0, rfl, by omega⟩
  · exact ⟨1, rfl, by omega⟩
  · exact ⟨2, rfl, by omega⟩
theorem ix6 {i : Int} (h0 : 0 ≤ i) (h1 : i < 6) : ∃ n : Nat, atI [D.int 0, D.int 0, D.int 0, D.int 0, D.int 1, D.int 2] i = some (.int (n : Int)) ∧ n ≤ 2 := by
  have : i = 0 ∨ i = 1 ∨ i = 2 ∨ i = 3 ∨ i = 4 ∨ i = 5 := by omega
  rcases this with rfl | rfl | rfl | rfl | rfl | rfl
  · exact ⟨0, rfl, by omega⟩
  · exact ⟨0, rfl, by omega⟩
  · exact ⟨0, rfl, by omega⟩
  · exact ⟨0, rfl, by omega⟩
  · exact ⟨1, rfl, by omega⟩
  · exact ⟨2, rfl, by omega⟩
def MD (c : Nat) (ws : List Str) (kvs : List (Key × D)) : Mu := [.orc (c, true), .lst (ws.map .str), .dct kvs]
theorem draw_MD {c : Nat} {ws : List Str} {kvs : List (Key × D)} {m : Int} {Q : D → Mu → Prop} {E : Exn → Mu → Prop} (hc : 0 < c) (hm : 0 < m) (hm2 : m.natAbs < 2 ^ 60) (q : ∀ d, 0 ≤ d → d < m → Q (.int d) (MD (c - 1) ws kvs)) : S_draw [.ref 0, .int m] (MD c ws kvs) Q E :=
  draw_M (μ := MD c ws kvs) (l := 0) (c := c) (by show 0 < 3; omega) hc hm hm2 q
theorem ne_pool3 {μ : Mu} {ws : List Str} {Q : D → Mu → Prop} (e : lk μ (.ref 1) = .lst (ws.map .str)) (hw : ∀ x ∈ ws, asc x) (q : Q (.bl (!decide (ws = []))) μ) : gNe (.ref 1) (.lst []) μ Q := by
  unfold gNe deqOk deq
  rw [e]
  refine ⟨⟨okn_strs hw 11, rfl⟩, ?_⟩
  have d : PyData.eqv (D.py 12 (.lst (ws.map .str))) (D.py 12 (lk μ (.lst []))) = decide (ws = []) := eqv_strs 11 11 ws []
  rw [d]
  exact q
/-- some of the values are replaced -/
theorem law03_f1 {C : Cs} {c : Nat} {ws ks : List Str} {v : Str → D} {a0 a3 a4 a6 a7 a8 a9 a10 a11 : Option D} {De : DEnds} (hw : Okp 8 ws) (hs : ∀ x, x ∈ ks ↔ x ∈ ws) (hv : ∀ x ∈ ks, okV (v x)) (hc : 10 ≤ c) (hkl : ks.length ≤ 8)
    (kn : ∀ c' v', c ≤ c' + 5 → (∀ x ∈ ks, okV (v' x)) → De.nx [a0, some (.ref 0), some (.ref 1), a3, a4, some (.ref 2), a6, a7, a8, a9, a10, a11] (MD c' ws (gL ks v'))) :
    t_law_f1 C De [a0, some (.ref 0), some (.ref 1), a3, a4, some (.ref 2), a6, a7, a8, a9, a10, a11] (MD c ws (gL ks v)) := by
  have wl := hw.len
  unfold t_law_f1
  simp only [dIf, dTest, dBin, dCall, dNil, dVar, List.getElem?_cons_zero, List.getElem?_cons_succ, gLst, List.length_nil]
  refine ⟨by decide, ne_pool3 rfl hw.ok ?_⟩
  by_cases h0 : ws = []
  · rw [decide_eq_true h0]
    simp only [Bool.not_true, cond_false, dNext]
    exact kn c v (by omega) hv
  have hpos : 1 ≤ ws.length := by cases ws with | nil => exact absurd rfl h0 | cons a r => simp
  rw [decide_eq_false h0]
  simp only [Bool.not_false, cond_true, dAsg, dOp, dCons, dNil, dVar, List.getElem?_cons_zero, List.getElem?_cons_succ]
  refine ⟨0, c, rfl, rfl, by omega, fun d hd => ?_⟩
  show dSetD _ _ _ _ (MD (c - 1) ws (gL ks v)) _ _
  have gl : ∀ c Q', gLen [.ref 1] (MD c ws (gL ks v)) Q' = Q' (.int (ws.length : Int)) (MD c ws (gL ks v)) := fun c Q' => by
    unfold gLen
    simp only [show lk (MD c ws (gL ks v)) (.ref 1) = .lst (ws.map .str) from rfl, List.length_map]
  simp only [dSetD, dVar, dBin, dOp, dCall, dCons, dNil, List.getElem?_cons_zero, List.getElem?_cons_succ, gl]
  refine draw_MD (by omega) (by omega) (by omega) fun t t0 t1 => ?_
  obtain ⟨x, hx, ex⟩ := word_at (W := ws) t0 t1
  unfold gIx
  simp only [show ∀ c, lk (MD c ws (gL ks v)) (.ref 1) = .lst (ws.map .str) from fun _ => rfl, ex, keyOfD, show ∀ c, (MD c ws (gL ks v))[2]? = some (.dct (gL ks v)) from fun _ => rfl]
  refine ⟨by rw [g_len, sizeLine_eq]; omega, ?_⟩
  rw [put_g, show lkPut ks x = ks from by unfold lkPut; rw [if_pos ((hs x).mpr hx)]]
  refine kn (c - 1 - 1) (upV v x d) (by omega) fun y hy => ?_
  unfold upV
  split
  · exact .inr hd
  · exact hv y hy
/-- some of the names are replaced -/
theorem law03_f0 {C : Cs} {c : Nat} {ws : List Str} {a0 a3 a4 a5 a6 a7 a8 a9 a10 a11 : Option D} {De : DEnds} (hw : Okp 8 ws) (hc : 10 ≤ c)
    (kn : ∀ c' ws', c ≤ c' + 5 → Okp 8 ws' → De.nx [a0, some (.ref 0), some (.ref 1), a3, a4, a5, a6, a7, a8, a9, a10, a11] (ML c' ws')) :
    t_law_f0 C De [a0, some (.ref 0), some (.ref 1), a3, a4, a5, a6, a7, a8, a9, a10, a11] (ML c ws) := by
  have wl := hw.len
  unfold t_law_f0
  simp only [dIf, dTest, dBin, dCall, dNil, dVar, List.getElem?_cons_zero, List.getElem?_cons_succ, gLst, List.length_nil]
  refine ⟨by decide, ne_pool3 rfl hw.ok ?_⟩
  by_cases h0 : ws = []
  · rw [decide_eq_true h0]
    simp only [Bool.not_true, cond_false, dNext]
    exact kn c ws (by omega) hw
  have hpos : 1 ≤ ws.length := by cases ws with | nil => exact absurd rfl h0 | cons a r => simp
  rw [decide_eq_false h0]
  simp only [Bool.not_false, cond_true, dAsg, dBin, dCall, dOp, dCons, dNil, dC, dVar, List.getElem?_cons_zero, List.getElem?_cons_succ, gLst]
  refine ⟨by rw [sizeLine_eq]; exact (by decide : 6 ≤ 16777216), ?_⟩
  refine draw_ML (by omega) (by decide) (by decide) fun i i0 i1 => ?_
  simp only [gIx, lk]
  obtain ⟨x, e, z, rfl, hz1, hz2⟩ := atI_six3 (a := .str (Str.ofString "")) (b := .str (Str.ofString "X")) (c := .str (Str.ofString "1a")) (d := .str (Str.ofString "abcdefg")) (e := .str (Str.ofString "aB")) (f := .str (Str.ofString "a b")) i0 i1 (P := fun x => ∃ z, x = .str z ∧ asc z ∧ z.length ≤ 100)
    ⟨⟨_, rfl, asc_dec (by decide +kernel), by decide +kernel⟩, ⟨_, rfl, asc_dec (by decide +kernel), by decide +kernel⟩, ⟨_, rfl, asc_dec (by decide +kernel), by decide +kernel⟩, ⟨_, rfl, asc_dec (by decide +kernel), by decide +kernel⟩, ⟨_, rfl, asc_dec (by decide +kernel), by decide +kernel⟩, ⟨_, rfl, asc_dec (by decide +kernel), by decide +kernel⟩⟩
  rw [e]
  simp only [dSetI, dVar, dOp, dCall, dCons, dNil, List.getElem?_cons_zero, List.getElem?_cons_succ]
  have gl : ∀ c Q', gLen [.ref 1] (ML c ws) Q' = Q' (.int (ws.length : Int)) (ML c ws) := fun c Q' => by
    unfold gLen
    simp only [show lk (ML c ws) (.ref 1) = .lst (ws.map .str) from rfl, List.length_map]
  rw [gl]
  refine draw_ML (by omega) (by omega) (by omega) fun j j0 j1 => ?_
  obtain ⟨n, rfl⟩ : ∃ n : Nat, j = (n : Int) := ⟨j.toNat, by omega⟩
  have ij : ixN (ws.map D.str).length (n : Int) = some n := by
    have : n < ws.length := by omega
    unfold ixN; rw [List.length_map]; simp at this ⊢; first | done | omega
  simp only [show (ML (c - 1 - 1) ws)[1]? = some (.lst (ws.map .str)) from rfl]
  rw [ij]
  dsimp only
  rw [show (ML (c - 1 - 1) ws).set 1 (.lst ((ws.map D.str).set n (.str z))) = ML (c - 1 - 1) (ws.set n z) from by unfold ML; rw [List.map_set]; rfl]
  exact kn _ _ (by omega) (okp_set3 hw hz1 hz2)
theorem law03_3 {C : Cs} {c : Nat} {ws : List Str} {a0 a3 a4 a5 a6 a7 a8 a9 a10 : Option D} {Q : D → Mu → Prop} {E : Exn → Mu → Prop} (hw : Okp 8 ws) (hc : 2000 ≤ c) (q : ∀ μ, Q (.bl true) μ) :
    t_law_3 C (dFn [] Q E) [a0, some (.ref 0), some (.ref 1), a3, a4, a5, a6, a7, a8, a9, a10, none] (ML c ws) := by
  have wl := hw.len
  unfold t_law_3
  rw [dSeq]
  simp only [dAsg, dBin, dCall, dOp, dCons, dNil, dC, dVar, List.getElem?_cons_zero, List.getElem?_cons_succ, gPow, gLst]
  refine ⟨by decide, by rw [sizeLine_eq]; exact (by decide : 3 ≤ 16777216), ?_⟩
  refine draw_ML (by omega) (by decide) (by decide) fun i i0 i1 => ?_
  simp only [gIx, lk]
  have : ∃ m : Int, atI [D.int 3, D.int 10, D.int (10 ^ Int.toNat 20)] i = some (.int m) ∧ 0 < m ∧ m.natAbs.log2 < 9000 := by
    have : i = 0 ∨ i = 1 ∨ i = 2 := by omega
    rcases this with rfl | rfl | rfl
    · exact ⟨3, rfl, by decide, by decide +kernel⟩
    · exact ⟨10, rfl, by decide, by decide +kernel⟩
    · exact ⟨10 ^ Int.toNat 20, rfl, by decide, by decide +kernel⟩
  obtain ⟨m, e, m0, m1⟩ := this
  rw [e]
  dsimp only
  simp only [dName, List.set_cons_succ, List.set_cons_zero]
  unfold t_law_4
  try dsimp only
  rw [dSeq]
  simp only [dAsg, dCall, dCons, dNil, dComp, dIter, dVar, List.getElem?_cons_zero, List.getElem?_cons_succ, wipeG, List.set_cons_succ, List.set_cons_zero]
  show dCompL (some (1, ws.map .str)) _ _ _ _ (ws.map .str) [] (ML (c - 1) ws) _
  refine comp_inv (fun j acc μ' => ∃ (ps : List (Str × Int)) (c' : Nat), acc = ps.map (fun p => .tup [.str p.1, .int p.2]) ∧ ps.map (·.1) = ws.take j ∧ c ≤ c' + 1 + 2 * j ∧ μ' = ML c' ws) ⟨[], c - 1, rfl, rfl, by omega, rfl⟩ (by rw [List.length_map, sizeLine_eq]; omega) ?_ ?_
  · rintro j d acc μ' hd ⟨ps, c', rfl, hp, hc', rfl⟩
    rw [List.getElem?_map, Option.map_eq_some_iff] at hd
    obtain ⟨x, hx, rfl⟩ := hd
    have hj := (List.getElem?_eq_some_iff.mp hx).1
    have tk : ws.take (j + 1) = ws.take j ++ [x] := by rw [List.take_succ, hx]; rfl
    refine ⟨rfl, fun K1 K2 k1 k2 => ?_⟩
    simp only [cName, dYes, cond_true, dCall, dCons, dNil, dBin, dOp, dUn, dC, dVar, List.set_cons_succ, List.set_cons_zero, List.getElem?_cons_zero, List.getElem?_cons_succ]
    obtain ⟨c0, rfl⟩ : ∃ c0, c' = c0 + 1 := ⟨c' - 1, by omega⟩
    refine ⟨0, c0, m, rfl, rfl, m0, m1, fun b v0 v1 => ?_⟩
    show gNeg _ (ML c0 ws) _
    simp only [gNeg, gLst]
    refine ⟨sz2, ?_⟩
    refine draw_ML (by omega) (by decide) (by decide) fun s s0 s1 => ?_
    simp only [gIx, lk]
    have : ∃ w : Int, atI [D.int 1, D.int (-1)] s = some (.int w) ∧ (-(2 ^ 64) < w ∧ w < 2 ^ 64) := by
      have : s = 0 ∨ s = 1 := by omega
      rcases this with rfl | rfl
      · exact ⟨1, rfl, by decide⟩
      · exact ⟨-1, rfl, by decide⟩
    obtain ⟨w, e, hwb⟩ := this
    rw [e]
    simp only [gMul, lk, gTup]
    refine ⟨.inr hwb, sz2, ?_⟩
    exact k1 _ _ ⟨ps ++ [(x, b * w)], c0 - 1, by rw [List.map_append]; rfl, by rw [List.map_append, hp, tk]; rfl, by omega, rfl⟩
  · rintro acc μ' ⟨ps, c', rfl, hp, hc', rfl⟩
    rw [List.length_map] at hc' hp
    rw [List.take_length] at hp
    refine ⟨rfl, ?_⟩
    simp only [dFin, gDictP, lk]
    rw [pairs_g ps]
    dsimp only
    obtain ⟨ks, v, mg, knd, kmem, kv⟩ := merge_g ps [] (fun _ => .int 0) List.nodup_nil fun _ => ⟨0, rfl⟩
    have mg : mergeKD [] (ps.map fun p => (.inr p.1, .int p.2)) = gL ks v := mg
    rw [mg]
    have hs : ∀ x, x ∈ ks ↔ x ∈ ws := fun x => by rw [kmem x, hp]; simp
    have hkl : ks.length ≤ 8 := Nat.le_trans (nodup_sub_len knd fun x hx => (hs x).mp hx) wl
    simp only [dFinD, dName, List.set_cons_succ, List.set_cons_zero]
    show t_law_5 C _ _ (MD c' ws (gL ks v))
    unfold t_law_5
    rw [dSeq]
    simp only [dFor, dRange1, dBin, dCall, dOp, dCons, dNil, dC, dVar, List.getElem?_cons_zero, List.getElem?_cons_succ, gLst]
    refine ⟨by rw [sizeLine_eq]; exact (by decide : 4 ≤ 16777216), ?_⟩
    refine draw_MD (by omega) (by decide) (by decide) fun i i0 i1 => ?_
    simp only [gIx, lk]
    obtain ⟨n, e, hn⟩ := ix4 i0 i1
    rw [e]
    dsimp only
    rw [Int.toNat_natCast]
    refine ⟨by omega, ?_⟩
    refine loop_inv (src := none) (fun i Γ μ' => ∃ c2 v2 b3, i ≤ n ∧ c' ≤ c2 + 1 + 5 * i ∧ (∀ x ∈ ks, okV (v2 x)) ∧ Γ = [a0, some (.ref 0), some (.ref 1), b3, some (.int m), some (.ref 2), a6, a7, a8, a9, a10, none] ∧ μ' = MD c2 ws (gL ks v2)) ⟨c' - 1, v, _, by omega, by omega, fun x _ => .inl (kv x), rfl, rfl⟩ ?_ ?_
    · rintro j d Γ μ' hd ⟨c2, v2, b3, hj, h1, h2, rfl, rfl⟩
      obtain ⟨hj2, rfl⟩ := irng_get hd
      refine ⟨trivial, fun Kn kn => ?_⟩
      simp only [dName, List.set_cons_succ, List.set_cons_zero]
      exact law03_f1 hw hs h2 (by omega) hkl fun c3 v3 k1 k2 => kn _ _ ⟨c3, v3, _, by omega, by omega, k2, rfl, rfl⟩
    · rintro Γ μ' ⟨c2, v2, b3, hj, h1, h2, rfl, rfl⟩
      rw [irng_len] at h1
      refine ⟨trivial, ?_⟩
      unfold t_law_6
      try dsimp only
      rw [dSeq]
      refine .inr ⟨2, gL ks v2, rfl, rfl, ?_⟩
      simp only [dAsg, dCall, dCons, dNil, dVar, List.set_cons_succ, List.set_cons_zero, List.getElem?_cons_zero, List.getElem?_cons_succ, gDictC, lk, dFinD]
      simp only [dName, List.set_cons_succ, List.set_cons_zero]
      have gk : GOk ks v2 := ⟨knd, by omega, fun x hx => by
        have hx := (hs x).mp hx
        exact ⟨by have := hw.sl x hx; omega, hw.ok x hx, asc_ch (hw.ok x hx)⟩, h2⟩
      exact law03_7 (c := c2) (ws := ws) gk (by omega) q
theorem rd_law {C : Cs} {n1 n2 n3 n4 n5 n6 n7 n8 n9 n10 n11 n12 : Str} : ∀ ds μ Q E, S_law ds μ Q E → t_law C (dFn μ Q E) (start0 [n1, n2, n3, n4, n5, n6, n7, n8, n9, n10, n11, n12] ds) μ := by
  rintro ds μ Q E ⟨ns, rfl, hl, rfl, q⟩
  unfold t_law
  rw [dSeq]
  simp only [dAsg, dOp, dCons, dNil, dVar, dName, start0, List.map_cons, List.map_nil, List.length_cons, List.length_nil, List.replicate, List.cons_append, List.nil_append, List.getElem?_cons_zero, List.set_cons_succ, List.set_cons_zero]
  refine ⟨ns, rfl, hl, by simp, ?_⟩
  show t_law_1 C _ _ (MO 1099511627776)
  unfold t_law_1
  rw [dSeq]
  simp only [dAsg, dOp, dBin, dCall, dCons, dNil, dC, dVar, List.getElem?_cons_zero, List.getElem?_cons_succ, gLst]
  refine ⟨by rw [sizeLine_eq]; exact (by decide : 9 ≤ 16777216), ?_⟩
  refine draw_MO (by omega) (by decide) (by decide) fun i i0 i1 => ?_
  simp only [gIx, lk]
  have : ∃ n : Nat, atI [D.int 1, D.int 2, D.int 3, D.int 4, D.int 5, D.int 6, D.int 6, D.int 7, D.int 0] i = some (.int (n : Int)) ∧ n ≤ 7 := by
    have : i = 0 ∨ i = 1 ∨ i = 2 ∨ i = 3 ∨ i = 4 ∨ i = 5 ∨ i = 6 ∨ i = 7 ∨ i = 8 := by omega
    rcases this with rfl | rfl | rfl | rfl | rfl | rfl | rfl | rfl | rfl
    · exact ⟨1, rfl, by omega⟩
    · exact ⟨2, rfl, by omega⟩
    · exact ⟨3, rfl, by omega⟩
    · exact ⟨4, rfl, by omega⟩
    · exact ⟨5, rfl, by omega⟩
    · exact ⟨6, rfl, by omega⟩
    · exact ⟨6, rfl, by omega⟩
    · exact ⟨7, rfl, by omega⟩
    · exact ⟨0, rfl, by omega⟩
  obtain ⟨n, e, hn⟩ := this
  rw [e]
  dsimp only
  refine ⟨0, _, (n : Int), rfl, MO_get, by omega, by omega, by omega, fun c2 ws b1 b2 hw => ?_⟩
  show S_order24 [.ref 0, .lst (ws.map .str)] (MO c2) _ _
  have wl := hw.len
  rw [Int.toNat_natCast] at wl
  refine .inr ⟨0, c2, _, ws.map .str, rfl, MO_get, .inl rfl, by rw [List.length_map]; omega, by rw [List.length_map]; omega, ?_, fun c3 ys b3 hp => ?_⟩
  · rw [puL_iff]
    intro d hd
    obtain ⟨x, _, rfl⟩ := List.mem_map.mp hd
    rfl
  obtain ⟨vs, rfl, pv⟩ := perm_strs hp
  rw [List.length_map] at b3
  have okv : Okp 8 vs := ⟨by rw [pv.length_eq]; omega, fun x hx => (valid_asc (hw.ok x (pv.mem_iff.mp hx))).1, fun x hx => by have := (valid_asc (hw.ok x (pv.mem_iff.mp hx))).2; omega⟩
  show dName 2 (.ref 1) _ (ML c3 vs) _ _
  simp only [dName, List.set_cons_succ, List.set_cons_zero]
  unfold t_law_2
  try dsimp only
  rw [dSeq]
  simp only [dFor, dRange1, dBin, dCall, dOp, dCons, dNil, dC, dVar, List.getElem?_cons_zero, List.getElem?_cons_succ, gLst]
  refine ⟨by rw [sizeLine_eq]; exact (by decide : 6 ≤ 16777216), ?_⟩
  refine draw_ML (by omega) (by decide) (by decide) fun i i0 i1 => ?_
  simp only [gIx, lk]
  obtain ⟨n, e, hn⟩ := ix6 i0 i1
  rw [e]
  dsimp only
  rw [Int.toNat_natCast]
  refine ⟨by omega, ?_⟩
  refine loop_inv (src := none) (fun i Γ μ' => ∃ c4 ws4 b3, i ≤ n ∧ c3 ≤ c4 + 1 + 5 * i ∧ Okp 8 ws4 ∧ Γ = [some (.scr ns), some (.ref 0), some (.ref 1), b3, none, none, none, none, none, none, none, none] ∧ μ' = ML c4 ws4) ⟨c3 - 1, vs, _, by omega, by omega, okv, rfl, rfl⟩ ?_ ?_
  · rintro j d Γ μ' hd ⟨c4, ws4, b3, hj, h1, h2, rfl, rfl⟩
    obtain ⟨hj2, rfl⟩ := irng_get hd
    refine ⟨trivial, fun Kn kn => ?_⟩
    simp only [dName, List.set_cons_succ, List.set_cons_zero]
    exact law03_f0 h2 (by omega) fun c5 ws5 k1 k2 => kn _ _ ⟨c5, ws5, _, by omega, by omega, k2, rfl, rfl⟩
  · rintro Γ μ' ⟨c4, ws4, b3, hj, h1, h2, rfl, rfl⟩
    rw [irng_len] at h1
    exact ⟨trivial, law03_3 h2 (by omega) q⟩
end DV
namespace K03
open PySem PySem.Spec PyProof.Rows L2 DV
def top (i : Nat) : Stmt := PySem.Challenge.pw_twochoosers_k03_wishes.main.body.getD i (.Pass ⟨0, 0, 0, 0⟩)
abbrev s_BadCount__init_ : Stmt := inClass (top 6) 0
abbrev s_BadName__init_ : Stmt := inClass (top 3) 0
abbrev s_DuplicateName__init_ : Stmt := inClass (top 4) 0
abbrev s_BadWish__init_ : Stmt := inClass (top 7) 0
abbrev s_UnknownName__init_ : Stmt := inClass (top 5) 0
abbrev s_valid_name : Stmt := top 12
abbrev s_is_integer : Stmt := top 13
abbrev s_check_number : Stmt := top 16
abbrev s_check_different : Stmt := top 17
abbrev s_W_initE : Stmt := inClass (top 18) 0
abbrev s_W_outcomes : Stmt := inClass (top 18) 3
abbrev s_W_item : Stmt := inClass (top 18) 4
abbrev s_W_amountsC : Stmt := inClass (top 18) 7
abbrev s_W_prefersX : Stmt := inClass (top 18) 8
abbrev s_W_best : Stmt := inClass (top 18) 9
abbrev s_W_ranks : Stmt := inClass (top 18) 10
abbrev s_start : Stmt := top 20
abbrev s_draw : Stmt := top 21
abbrev s_names : Stmt := top 22
abbrev s_order : Stmt := top 24
abbrev s_l_good24 : Stmt := top 23
abbrev s_l_odd3 : Stmt := top 25
abbrev s_l_made3 : Stmt := top 26
abbrev s_l_due3 : Stmt := top 27
abbrev s_l_told3 : Stmt := top 28
abbrev s_l_tdue3 : Stmt := top 29
abbrev s_l_ranks4 : Stmt := top 30
abbrev s_l_right3 : Stmt := top 31
abbrev s_law : Stmt := top 32
structure Txt (K : PySem.W.Frag) (C : Cs) (mg : Str → Option Value) : Prop where
  m_len : mg "len" = none
  m_abs : mg "abs" = none
  m_int : mg "int" = none
  m_list : mg "list" = none
  m_tuple : mg "tuple" = none
  m_range : mg "range" = none
  m_isinstance : mg "isinstance" = none
  m_bool : mg "bool" = none
  m_str : mg "str" = none
  m_dict : mg "dict" = none
  m_sorted : mg "sorted" = none
  m_set : mg "set" = none
  m_max : mg "max" = none
  m_LETTERS : ∃ t, mg "LETTERS" = some (.str "abcdefghijklmnopqrstuvwxyz" t)
  m_DIGITS : ∃ t, mg "DIGITS" = some (.str "0123456789" t)
  m_LONGEST : ∃ t, mg "LONGEST" = some (.int 6 t)
  m_MOST_OUTCOMES : ∃ t, mg "MOST_OUTCOMES" = some (.int 6 t)
  c_Wishes : Cls K C.W
  n_Wishes_likes : NoAttr K C.W "likes"
  g_BadCount : mg "BadCount" = some (.ref (xa K .BadCount))
  g_BadName : mg "BadName" = some (.ref (xa K .BadName))
  g_BadWish : mg "BadWish" = some (.ref (xa K .BadWish))
  g_DuplicateName : mg "DuplicateName" = some (.ref (xa K .DuplicateName))
  g_UnknownName : mg "UnknownName" = some (.ref (xa K .UnknownName))
  x_BadCount_count : XfC K (xa K .BadCount) ∧ PySem.W.findIn K (.ref (xa K .BadCount)) "count" = some none
  x_BadName_name : XfC K (xa K .BadName) ∧ PySem.W.findIn K (.ref (xa K .BadName)) "name" = some none
  x_BadWish_value : XfC K (xa K .BadWish) ∧ PySem.W.findIn K (.ref (xa K .BadWish)) "value" = some none
  x_UnknownName_name : XfC K (xa K .UnknownName) ∧ PySem.W.findIn K (.ref (xa K .UnknownName)) "name" = some none
  em : EmOk [.BadName, .DuplicateName, .UnknownName, .BadCount, .BadWish] K
  bX : BaseX K (He.ga K "ChooserError")
  g_Base : mg "ChooserError" = some (.ref (He.ga K "ChooserError"))
section
variable {P : Program} {w : World} {K : PySem.W.Frag} {mg : Str → Option Value} {base : Heap} {C : Cs}
theorem sc_BadCount__init_ : FnScope ["self", "count"] ["self", "count"] (defScope s_BadCount__init_) := ⟨rfl, rfl, rfl, by decide +kernel, rfl, by decide +kernel, by decide +kernel⟩
theorem has_BadCount__init_ (T : Txt K C mg) {f : Addr} {fd : FuncData} (F : Fun K "__init__" "BadCount.__init__" s_BadCount__init_ f fd) (m : ErrC K .BadCount f) (b : Binds K fd ["self", "count"] []) (no : PySem.W.findIn K (.ref (xa K .BadCount)) "count" = some none) : HasE P w K mg base .BadCount "count" := by
  refine ⟨f, fd, "self", "count", T.g_BadCount, m, b, ok_I1 (m := "this number of items is not allowed") F sc_BadCount__init_ m.T no fun cdv A outer s H E => ?_⟩
  exact pss_cons (ps_expr (pe_baseInit T.bX rfl T.g_Base rfl (pa_cons (pe_var (i := 0) rfl (by first | exact Or.inl rfl | exact Or.inr (Or.inl rfl))) (pa_cons pe_str pa_nil)))) (pss_one (ps_ost (pe_var (i := 0) rfl (by first | exact Or.inl rfl | exact Or.inr (Or.inl rfl))) (pe_var (i := 1) rfl (by first | exact Or.inl rfl | exact Or.inr (Or.inl rfl)))))
theorem sc_BadName__init_ : FnScope ["self", "name"] ["self", "name"] (defScope s_BadName__init_) := ⟨rfl, rfl, rfl, by decide +kernel, rfl, by decide +kernel, by decide +kernel⟩
theorem has_BadName__init_ (T : Txt K C mg) {f : Addr} {fd : FuncData} (F : Fun K "__init__" "BadName.__init__" s_BadName__init_ f fd) (m : ErrC K .BadName f) (b : Binds K fd ["self", "name"] []) (no : PySem.W.findIn K (.ref (xa K .BadName)) "name" = some none) : HasE P w K mg base .BadName "name" := by
  refine ⟨f, fd, "self", "name", T.g_BadName, m, b, ok_I1 (m := "this string is not a name") F sc_BadName__init_ m.T no fun cdv A outer s H E => ?_⟩
  exact pss_cons (ps_expr (pe_baseInit T.bX rfl T.g_Base rfl (pa_cons (pe_var (i := 0) rfl (by first | exact Or.inl rfl | exact Or.inr (Or.inl rfl))) (pa_cons pe_str pa_nil)))) (pss_one (ps_ost (pe_var (i := 0) rfl (by first | exact Or.inl rfl | exact Or.inr (Or.inl rfl))) (pe_var (i := 1) rfl (by first | exact Or.inl rfl | exact Or.inr (Or.inl rfl)))))
theorem sc_DuplicateName__init_ : FnScope ["self", "name"] ["self", "name"] (defScope s_DuplicateName__init_) := ⟨rfl, rfl, rfl, by decide +kernel, rfl, by decide +kernel, by decide +kernel⟩
theorem has_DuplicateName__init_ (T : Txt K C mg) {f : Addr} {fd : FuncData} (F : Fun K "__init__" "DuplicateName.__init__" s_DuplicateName__init_ f fd) (m : ErrC K .DuplicateName f) (b : Binds K fd ["self", "name"] []) (no : PySem.W.findIn K (.ref (xa K .DuplicateName)) "name" = some none) : HasE P w K mg base .DuplicateName "name" := by
  refine ⟨f, fd, "self", "name", T.g_DuplicateName, m, b, ok_I1 (m := "this name stands twice") F sc_DuplicateName__init_ m.T no fun cdv A outer s H E => ?_⟩
  exact pss_cons (ps_expr (pe_baseInit T.bX rfl T.g_Base rfl (pa_cons (pe_var (i := 0) rfl (by first | exact Or.inl rfl | exact Or.inr (Or.inl rfl))) (pa_cons pe_str pa_nil)))) (pss_one (ps_ost (pe_var (i := 0) rfl (by first | exact Or.inl rfl | exact Or.inr (Or.inl rfl))) (pe_var (i := 1) rfl (by first | exact Or.inl rfl | exact Or.inr (Or.inl rfl)))))
theorem sc_BadWish__init_ : FnScope ["self", "value"] ["self", "value"] (defScope s_BadWish__init_) := ⟨rfl, rfl, rfl, by decide +kernel, rfl, by decide +kernel, by decide +kernel⟩
theorem has_BadWish__init_ (T : Txt K C mg) {f : Addr} {fd : FuncData} (F : Fun K "__init__" "BadWish.__init__" s_BadWish__init_ f fd) (m : ErrC K .BadWish f) (b : Binds K fd ["self", "value"] []) (no : PySem.W.findIn K (.ref (xa K .BadWish)) "value" = some none) : HasE P w K mg base .BadWish "value" := by
  refine ⟨f, fd, "self", "value", T.g_BadWish, m, b, ok_I1 (m := "this amount is not an integer") F sc_BadWish__init_ m.T no fun cdv A outer s H E => ?_⟩
  exact pss_cons (ps_expr (pe_baseInit T.bX rfl T.g_Base rfl (pa_cons (pe_var (i := 0) rfl (by first | exact Or.inl rfl | exact Or.inr (Or.inl rfl))) (pa_cons pe_str pa_nil)))) (pss_one (ps_ost (pe_var (i := 0) rfl (by first | exact Or.inl rfl | exact Or.inr (Or.inl rfl))) (pe_var (i := 1) rfl (by first | exact Or.inl rfl | exact Or.inr (Or.inl rfl)))))
theorem sc_UnknownName__init_ : FnScope ["self", "name"] ["self", "name"] (defScope s_UnknownName__init_) := ⟨rfl, rfl, rfl, by decide +kernel, rfl, by decide +kernel, by decide +kernel⟩
theorem has_UnknownName__init_ (T : Txt K C mg) {f : Addr} {fd : FuncData} (F : Fun K "__init__" "UnknownName.__init__" s_UnknownName__init_ f fd) (m : ErrC K .UnknownName f) (b : Binds K fd ["self", "name"] []) (no : PySem.W.findIn K (.ref (xa K .UnknownName)) "name" = some none) : HasE P w K mg base .UnknownName "name" := by
  refine ⟨f, fd, "self", "name", T.g_UnknownName, m, b, ok_I1 (m := "nothing has this name") F sc_UnknownName__init_ m.T no fun cdv A outer s H E => ?_⟩
  exact pss_cons (ps_expr (pe_baseInit T.bX rfl T.g_Base rfl (pa_cons (pe_var (i := 0) rfl (by first | exact Or.inl rfl | exact Or.inr (Or.inl rfl))) (pa_cons pe_str pa_nil)))) (pss_one (ps_ost (pe_var (i := 0) rfl (by first | exact Or.inl rfl | exact Or.inr (Or.inl rfl))) (pe_var (i := 1) rfl (by first | exact Or.inl rfl | exact Or.inr (Or.inl rfl)))))
theorem sc_valid_name : FnScope ["text", "char"] ["text"] (defScope s_valid_name) := ⟨rfl, rfl, rfl, by decide +kernel, rfl, by decide +kernel, by decide +kernel⟩
theorem has_valid_name (T : Txt K C mg)  {f : Addr} {fd : FuncData} (F : Fun K "valid_name" "valid_name" s_valid_name f fd) (m : mg "valid_name" = some (.ref f)) (b : Binds K fd ["text"] []) (kb : (fun _ => True) fd) :
    Has P w K mg base "valid_name" 1 ["text"] S_valid_name (fun _ => True) := by
  refine ⟨f, fd, m, F.kp, b, kb, fun_deep (T := t_valid_name) (k := 0) F sc_valid_name ?_ (fun cdv A outer s H E hr => ?_) rd_valid_name⟩
  · intro ds μ Q E h; first | (obtain ⟨_, rfl, _⟩ := h; rfl; done) | (obtain ⟨rfl, _⟩ := h; rfl; done) | (obtain ⟨_, rfl, _⟩ := h; rfl; done) | (obtain ⟨_, _, rfl, _⟩ := h; rfl; done) | (obtain ⟨_, _, _, rfl, _⟩ := h; rfl; done) | (obtain ⟨_, _, _, _, rfl, _⟩ := h; rfl; done) | (obtain ⟨_, _, _, _, _, rfl, _⟩ := h; rfl; done) | (obtain ⟨_, _, _, _, _, _, rfl, _⟩ := h; rfl; done) | (obtain ⟨_, _, _, _, _, _, _, rfl, _⟩ := h; rfl; done) | (obtain ⟨_, _, _, _, _, _, _, _, rfl, _⟩ := h; rfl; done) | (obtain ⟨_, _, _, _, _, _, _, _, _, rfl, _⟩ := h; rfl; done) | (rcases h with ⟨_, rfl | rfl, _⟩ <;> rfl) | (rcases h with ⟨_, _, rfl | rfl, _⟩ <;> rfl) | (rcases h with h | h <;> first | (obtain ⟨rfl, _⟩ := h; rfl; done) | (obtain ⟨_, rfl, _⟩ := h; rfl; done) | (obtain ⟨_, _, rfl, _⟩ := h; rfl; done) | (obtain ⟨_, _, _, rfl, _⟩ := h; rfl; done) | (obtain ⟨_, _, _, _, rfl, _⟩ := h; rfl; done) | (obtain ⟨_, _, _, _, _, rfl, _⟩ := h; rfl; done) | (obtain ⟨_, _, _, _, _, _, rfl, _⟩ := h; rfl; done) | (obtain ⟨_, _, _, _, _, _, _, rfl, _⟩ := h; rfl; done) | (obtain ⟨_, _, _, _, _, _, _, _, rfl, _⟩ := h; rfl; done) | (obtain ⟨_, _, _, _, _, _, _, _, _, rfl, _⟩ := h; rfl; done) | (rcases h with ⟨_, rfl | rfl, _⟩ <;> rfl))
  · have tk := takes_of (X := cxOf (L2.CX P w) P w K mg base ["text", "char"] "valid_name" (defScope s_valid_name) f cdv A outer s H E) rfl rfl rfl rfl
    have hp := passes_of (X := cxOf (L2.CX P w) P w K mg base ["text", "char"] "valid_name" (defScope s_valid_name) f cdv A outer s H E) rfl
    exact dss_cons (ds_if (PW.pt (pw_or' (dt_not (dt_chain op_le op_le (de_int pe_int) (de_len rfl T.m_len (de_var (pv 0))) (de_int (pe_glob rfl T.m_LONGEST.choose_spec ⟨_, rfl⟩)))) (pw_or1 (dt_notin (de_sub_ (de_var (pv 0)) (de_int pe_int)) (de_str (pe_glob rfl T.m_LETTERS.choose_spec ⟨_, rfl⟩)))))) (dss_one (ds_ret (de_bl pe_bl))) (dss_nil))
      (dss_cons (ds_for hp rfl (di_any (de_var (pv 0))) (dg_name (pg_name (i := 1) sc_valid_name.nd rfl (by first | exact Or.inl rfl | exact Or.inr rfl))) (dss_one (ds_if (PW.pt (pw_and' (dt_notin (de_var (pv 1)) (de_str (pe_glob rfl T.m_LETTERS.choose_spec ⟨_, rfl⟩))) (pw_and1 (dt_notin (de_var (pv 1)) (de_str (pe_glob rfl T.m_DIGITS.choose_spec ⟨_, rfl⟩)))))) (dss_one (ds_ret (de_bl pe_bl))) (dss_nil))))
      (dss_one (ds_ret (de_bl pe_bl))))
theorem sc_is_integer : FnScope ["value"] ["value"] (defScope s_is_integer) := ⟨rfl, rfl, rfl, by decide +kernel, rfl, by decide +kernel, by decide +kernel⟩
theorem has_is_integer (T : Txt K C mg)  {f : Addr} {fd : FuncData} (F : Fun K "is_integer" "is_integer" s_is_integer f fd) (m : mg "is_integer" = some (.ref f)) (b : Binds K fd ["value"] []) (kb : (fun _ => True) fd) :
    Has P w K mg base "is_integer" 1 ["value"] S_is_integer (fun _ => True) := by
  refine ⟨f, fd, m, F.kp, b, kb, fun_deep (T := t_is_integer) (k := 0) F sc_is_integer ?_ (fun cdv A outer s H E hr => ?_) rd_is_integer⟩
  · intro ds μ Q E h; first | (obtain ⟨_, rfl, _⟩ := h; rfl; done) | (obtain ⟨rfl, _⟩ := h; rfl; done) | (obtain ⟨_, rfl, _⟩ := h; rfl; done) | (obtain ⟨_, _, rfl, _⟩ := h; rfl; done) | (obtain ⟨_, _, _, rfl, _⟩ := h; rfl; done) | (obtain ⟨_, _, _, _, rfl, _⟩ := h; rfl; done) | (obtain ⟨_, _, _, _, _, rfl, _⟩ := h; rfl; done) | (obtain ⟨_, _, _, _, _, _, rfl, _⟩ := h; rfl; done) | (obtain ⟨_, _, _, _, _, _, _, rfl, _⟩ := h; rfl; done) | (obtain ⟨_, _, _, _, _, _, _, _, rfl, _⟩ := h; rfl; done) | (obtain ⟨_, _, _, _, _, _, _, _, _, rfl, _⟩ := h; rfl; done) | (rcases h with ⟨_, rfl | rfl, _⟩ <;> rfl) | (rcases h with ⟨_, _, rfl | rfl, _⟩ <;> rfl) | (rcases h with h | h <;> first | (obtain ⟨rfl, _⟩ := h; rfl; done) | (obtain ⟨_, rfl, _⟩ := h; rfl; done) | (obtain ⟨_, _, rfl, _⟩ := h; rfl; done) | (obtain ⟨_, _, _, rfl, _⟩ := h; rfl; done) | (obtain ⟨_, _, _, _, rfl, _⟩ := h; rfl; done) | (obtain ⟨_, _, _, _, _, rfl, _⟩ := h; rfl; done) | (obtain ⟨_, _, _, _, _, _, rfl, _⟩ := h; rfl; done) | (obtain ⟨_, _, _, _, _, _, _, rfl, _⟩ := h; rfl; done) | (obtain ⟨_, _, _, _, _, _, _, _, rfl, _⟩ := h; rfl; done) | (obtain ⟨_, _, _, _, _, _, _, _, _, rfl, _⟩ := h; rfl; done) | (rcases h with ⟨_, rfl | rfl, _⟩ <;> rfl))
  · have tk := takes_of (X := cxOf (L2.CX P w) P w K mg base ["value"] "is_integer" (defScope s_is_integer) f cdv A outer s H E) rfl rfl rfl rfl
    have hp := passes_of (X := cxOf (L2.CX P w) P w K mg base ["value"] "is_integer" (defScope s_is_integer) f cdv A outer s H E) rfl
    exact dss_one (ds_ret (de_and (de_isi .int (by decide) rfl T.m_isinstance (de_var (pv 0)) rfl T.m_int (by decide +kernel)) (de_one (de_not (de_isi .bool (by decide) rfl T.m_isinstance (de_var (pv 0)) rfl T.m_bool (by decide +kernel))))))
theorem sc_check_number : FnScope ["count"] ["count"] (defScope s_check_number) := ⟨rfl, rfl, rfl, by decide +kernel, rfl, by decide +kernel, by decide +kernel⟩
theorem has_check_number (T : Txt K C mg) (h_BadCount__init_ : HasE P w K mg base .BadCount "count") {f : Addr} {fd : FuncData} (F : Fun K "check_number" "check_number" s_check_number f fd) (m : mg "check_number" = some (.ref f)) (b : Binds K fd ["count"] []) (kb : (fun _ => True) fd) :
    Has P w K mg base "check_number" 3 ["count"] S_check_numberX (fun _ => True) := by
  refine ⟨f, fd, m, F.kp, b, kb, fun_deep (T := t_check_number) (k := 2) F sc_check_number ?_ (fun cdv A outer s H E hr => ?_) rd_check_numberX⟩
  · intro ds μ Q E h; first | (obtain ⟨rfl, _⟩ := h; rfl; done) | (obtain ⟨_, rfl, _⟩ := h; rfl; done) | (obtain ⟨_, _, rfl, _⟩ := h; rfl; done) | (obtain ⟨_, _, _, rfl, _⟩ := h; rfl; done) | (obtain ⟨_, _, _, _, rfl, _⟩ := h; rfl; done) | (obtain ⟨_, _, _, _, _, rfl, _⟩ := h; rfl; done) | (obtain ⟨_, _, _, _, _, _, rfl, _⟩ := h; rfl; done) | (obtain ⟨_, _, _, _, _, _, _, rfl, _⟩ := h; rfl; done) | (obtain ⟨_, _, _, _, _, _, _, _, rfl, _⟩ := h; rfl; done) | (obtain ⟨_, _, _, _, _, _, _, _, _, rfl, _⟩ := h; rfl; done) | (rcases h with ⟨_, rfl | rfl, _⟩ <;> rfl) | (rcases h with ⟨_, _, rfl | rfl, _⟩ <;> rfl) | (rcases h with h | h <;> first | (obtain ⟨rfl, _⟩ := h; rfl; done) | (obtain ⟨_, rfl, _⟩ := h; rfl; done) | (obtain ⟨_, _, rfl, _⟩ := h; rfl; done) | (obtain ⟨_, _, _, rfl, _⟩ := h; rfl; done) | (obtain ⟨_, _, _, _, rfl, _⟩ := h; rfl; done) | (obtain ⟨_, _, _, _, _, rfl, _⟩ := h; rfl; done) | (obtain ⟨_, _, _, _, _, _, rfl, _⟩ := h; rfl; done) | (obtain ⟨_, _, _, _, _, _, _, rfl, _⟩ := h; rfl; done) | (obtain ⟨_, _, _, _, _, _, _, _, rfl, _⟩ := h; rfl; done) | (obtain ⟨_, _, _, _, _, _, _, _, _, rfl, _⟩ := h; rfl; done) | (rcases h with ⟨_, rfl | rfl, _⟩ <;> rfl))
  · have tk := takes_of (X := cxOf (L2.CX P w) P w K mg base ["count"] "check_number" (defScope s_check_number) f cdv A outer s H E) rfl rfl rfl rfl
    have hp := passes_of (X := cxOf (L2.CX P w) P w K mg base ["count"] "check_number" (defScope s_check_number) f cdv A outer s H E) rfl
    exact dss_one (ds_if (dt_not (dt_chain op_le op_le (de_int pe_int) (de_var (pv 0)) (de_int (pe_glob rfl T.m_MOST_OUTCOMES.choose_spec ⟨_, rfl⟩)))) (dss_one (ds_raise h_BadCount__init_ (hr.mono (by decide)) rfl tk (de_var (pv 0)))) (dss_nil))
theorem sc_check_different : FnScope ["names", "earlier", "name"] ["names"] (defScope s_check_different) := ⟨rfl, rfl, rfl, by decide +kernel, rfl, by decide +kernel, by decide +kernel⟩
theorem has_check_different (T : Txt K C mg) (h_BadName__init_ : HasE P w K mg base .BadName "name") (h_DuplicateName__init_ : HasE P w K mg base .DuplicateName "name") (h_valid_name : Has P w K mg base "valid_name" 1 ["text"] S_valid_name (fun _ => True)) {f : Addr} {fd : FuncData} (F : Fun K "check_different" "check_different" s_check_different f fd) (m : mg "check_different" = some (.ref f)) (b : Binds K fd ["names"] []) (kb : (fun _ => True) fd) :
    Has P w K mg base "check_different" 3 ["names"] S_check_different (fun _ => True) := by
  refine ⟨f, fd, m, F.kp, b, kb, fun_deep (T := t_check_different) (k := 2) F sc_check_different ?_ (fun cdv A outer s H E hr => ?_) rd_check_different⟩
  · intro ds μ Q E h; first | (obtain ⟨rfl, _⟩ := h; rfl; done) | (obtain ⟨_, rfl, _⟩ := h; rfl; done) | (obtain ⟨_, _, rfl, _⟩ := h; rfl; done) | (obtain ⟨_, _, _, rfl, _⟩ := h; rfl; done) | (obtain ⟨_, _, _, _, rfl, _⟩ := h; rfl; done) | (obtain ⟨_, _, _, _, _, rfl, _⟩ := h; rfl; done) | (obtain ⟨_, _, _, _, _, _, rfl, _⟩ := h; rfl; done) | (obtain ⟨_, _, _, _, _, _, _, rfl, _⟩ := h; rfl; done) | (obtain ⟨_, _, _, _, _, _, _, _, rfl, _⟩ := h; rfl; done) | (obtain ⟨_, _, _, _, _, _, _, _, _, rfl, _⟩ := h; rfl; done) | (rcases h with ⟨_, rfl | rfl, _⟩ <;> rfl) | (rcases h with ⟨_, _, rfl | rfl, _⟩ <;> rfl) | (rcases h with h | h <;> first | (obtain ⟨rfl, _⟩ := h; rfl; done) | (obtain ⟨_, rfl, _⟩ := h; rfl; done) | (obtain ⟨_, _, rfl, _⟩ := h; rfl; done) | (obtain ⟨_, _, _, rfl, _⟩ := h; rfl; done) | (obtain ⟨_, _, _, _, rfl, _⟩ := h; rfl; done) | (obtain ⟨_, _, _, _, _, rfl, _⟩ := h; rfl; done) | (obtain ⟨_, _, _, _, _, _, rfl, _⟩ := h; rfl; done) | (obtain ⟨_, _, _, _, _, _, _, rfl, _⟩ := h; rfl; done) | (obtain ⟨_, _, _, _, _, _, _, _, rfl, _⟩ := h; rfl; done) | (obtain ⟨_, _, _, _, _, _, _, _, _, rfl, _⟩ := h; rfl; done) | (rcases h with ⟨_, rfl | rfl, _⟩ <;> rfl))
  · have tk := takes_of (X := cxOf (L2.CX P w) P w K mg base ["names", "earlier", "name"] "check_different" (defScope s_check_different) f cdv A outer s H E) rfl rfl rfl rfl
    have hp := passes_of (X := cxOf (L2.CX P w) P w K mg base ["names", "earlier", "name"] "check_different" (defScope s_check_different) f cdv A outer s H E) rfl
    exact dss_cons (ds_set (i := 1) (de_lstM (da_nil)) sc_check_different.nd)
      (dss_one (ds_for hp rfl (di_any (de_var (pv 0))) (dg_name (pg_name (i := 2) sc_check_different.nd rfl (by first | exact Or.inl rfl | exact Or.inr rfl))) (dss_cons (ds_if (dt_not (dt_val (de_fnH h_valid_name (hr.mono (by decide)) rfl tk (da_cons (de_var (pv 2)) (da_nil))))) (dss_one (ds_raise h_BadName__init_ (hr.mono (by decide)) rfl tk (de_var (pv 2)))) (dss_nil))
      (dss_cons (ds_if (dt_in (de_var (pv 2)) (de_var (pv 1))) (dss_one (ds_raise h_DuplicateName__init_ (hr.mono (by decide)) rfl tk (de_var (pv 2)))) (dss_nil))
      (dss_one (ds_drop (de_append (de_var (pv 1)) (de_var (pv 2)))))))))
theorem sc_W_initE : FnScope ["self", "amounts", "name"] ["self", "amounts"] (defScope s_W_initE) := ⟨rfl, rfl, rfl, by decide +kernel, rfl, by decide +kernel, by decide +kernel⟩
def kb_W_initE (K : PySem.W.Frag) (fd : FuncData) : Prop := KBd K fd ["self", "amounts"] 1 ["amounts"] (up1 [0])
theorem kb_W_initE_amounts : ∀ fd, kb_W_initE K fd → KBd K fd ["self", "amounts"] 1 ["amounts"] (up1 [0]) := fun _ h => h
theorem has_W_initE (T : Txt K C mg) (h_BadWish__init_ : HasE P w K mg base .BadWish "value") (h_check_different : Has P w K mg base "check_different" 3 ["names"] S_check_different (fun _ => True)) (h_check_number : Has P w K mg base "check_number" 3 ["count"] S_check_numberX (fun _ => True)) (h_is_integer : Has P w K mg base "is_integer" 1 ["value"] S_is_integer (fun _ => True)) {f : Addr} {fd : FuncData} (F : Fun K "__init__" "Wishes.__init__" s_W_initE f fd) (m : mg "Wishes" = some (.ref C.W)) (mk : Mk K C.W f) (b : Binds K fd ["self", "amounts"] []) (kb : (kb_W_initE K) fd) :
    HasIk P w K mg base C.W "Wishes" 4 ["self", "amounts"] (S_W_initE C) (kb_W_initE K) := by
  refine ⟨f, fd, m, mk, b, kb, fun_deep (T := (t_W_initE C)) (k := 3) F sc_W_initE ?_ (fun cdv A outer s H E hr => ?_) (rd_W_initE (C := C))⟩
  · intro ds μ Q E h; first | (obtain ⟨rfl, _⟩ := h; rfl; done) | (obtain ⟨_, rfl, _⟩ := h; rfl; done) | (obtain ⟨_, _, rfl, _⟩ := h; rfl; done) | (obtain ⟨_, _, _, rfl, _⟩ := h; rfl; done) | (obtain ⟨_, _, _, _, rfl, _⟩ := h; rfl; done) | (obtain ⟨_, _, _, _, _, rfl, _⟩ := h; rfl; done) | (obtain ⟨_, _, _, _, _, _, rfl, _⟩ := h; rfl; done) | (obtain ⟨_, _, _, _, _, _, _, rfl, _⟩ := h; rfl; done) | (obtain ⟨_, _, _, _, _, _, _, _, rfl, _⟩ := h; rfl; done) | (obtain ⟨_, _, _, _, _, _, _, _, _, rfl, _⟩ := h; rfl; done) | (rcases h with ⟨_, rfl | rfl, _⟩ <;> rfl) | (rcases h with ⟨_, _, rfl | rfl, _⟩ <;> rfl) | (rcases h with h | h <;> first | (obtain ⟨rfl, _⟩ := h; rfl; done) | (obtain ⟨_, rfl, _⟩ := h; rfl; done) | (obtain ⟨_, _, rfl, _⟩ := h; rfl; done) | (obtain ⟨_, _, _, rfl, _⟩ := h; rfl; done) | (obtain ⟨_, _, _, _, rfl, _⟩ := h; rfl; done) | (obtain ⟨_, _, _, _, _, rfl, _⟩ := h; rfl; done) | (obtain ⟨_, _, _, _, _, _, rfl, _⟩ := h; rfl; done) | (obtain ⟨_, _, _, _, _, _, _, rfl, _⟩ := h; rfl; done) | (obtain ⟨_, _, _, _, _, _, _, _, rfl, _⟩ := h; rfl; done) | (obtain ⟨_, _, _, _, _, _, _, _, _, rfl, _⟩ := h; rfl; done) | (rcases h with ⟨_, rfl | rfl, _⟩ <;> rfl))
  · have tk := takes_of (X := cxOf (L2.CX P w) P w K mg base ["self", "amounts", "name"] "Wishes.__init__" (defScope s_W_initE) f cdv A outer s H E) rfl rfl rfl rfl
    have hp := passes_of (X := cxOf (L2.CX P w) P w K mg base ["self", "amounts", "name"] "Wishes.__init__" (defScope s_W_initE) f cdv A outer s H E) rfl
    exact dss_cons (ds_drop (de_fnH h_check_number (hr.mono (by decide)) rfl tk (da_cons (de_len rfl T.m_len (de_var (pv 1))) (da_nil))))
      (dss_cons (ds_drop (de_fnH h_check_different (hr.mono (by decide)) rfl tk (da_cons (de_sortedD true rfl rfl T.m_sorted (de_var (pv 1))) (da_nil))))
      (dss_cons (ds_fld T.c_Wishes T.n_Wishes_likes (de_var (pv 0)) (de_dict0))
      (dss_one (ds_for hp rfl (di_any (de_sortedD true rfl rfl T.m_sorted (de_var (pv 1)))) (dg_name (pg_name (i := 2) sc_W_initE.nd rfl (by first | exact Or.inl rfl | exact Or.inr rfl))) (dss_cons (ds_if (dt_not (dt_val (de_fnH h_is_integer (hr.mono (by decide)) rfl tk (da_cons (de_dget (hu_of hr) (de_var (pv 1)) (de_var (pv 2))) (da_nil))))) (dss_one (ds_thawF (i := 0) (ds_raise h_BadWish__init_ (hr.mono (by decide)) rfl tk (de_dget (hu_of hr) (de_var (pv 1)) (de_var (pv 2)))))) (dss_nil))
      (dss_one (ds_asg (de_dget (hu_of hr) (de_var (pv 1)) (de_var (pv 2))) (dg_setD (pg_sub (de_fld T.c_Wishes T.n_Wishes_likes (de_var (pv 0))) (de_var (pv 2)) (set_dict (hu_of hr)))))))))))
theorem sc_W_outcomes : FnScope ["self"] ["self"] (defScope s_W_outcomes) := ⟨rfl, rfl, rfl, by decide +kernel, rfl, by decide +kernel, by decide +kernel⟩
theorem has_W_outcomes (T : Txt K C mg)  {f : Addr} {fd : FuncData} (F : Fun K "outcomes" "Wishes.outcomes" s_W_outcomes f fd) {pr : Addr} (m : PropOf K C.W "outcomes" pr f) (b : Binds K fd ["self"] []) :
    HasP P w K mg base C.W "outcomes" 1 ["self"] (S_W_outcomes C) := by
  refine ⟨pr, f, fd, m, b, fun_deep (T := (t_W_outcomes C)) (k := 0) F sc_W_outcomes ?_ (fun cdv A outer s H E hr => ?_) (rd_W_outcomes (C := C))⟩
  · intro ds μ Q E h; first | (obtain ⟨rfl, _⟩ := h; rfl; done) | (obtain ⟨_, rfl, _⟩ := h; rfl; done) | (obtain ⟨_, _, rfl, _⟩ := h; rfl; done) | (obtain ⟨_, _, _, rfl, _⟩ := h; rfl; done) | (obtain ⟨_, _, _, _, rfl, _⟩ := h; rfl; done) | (obtain ⟨_, _, _, _, _, rfl, _⟩ := h; rfl; done) | (obtain ⟨_, _, _, _, _, _, rfl, _⟩ := h; rfl; done) | (obtain ⟨_, _, _, _, _, _, _, rfl, _⟩ := h; rfl; done) | (obtain ⟨_, _, _, _, _, _, _, _, rfl, _⟩ := h; rfl; done) | (obtain ⟨_, _, _, _, _, _, _, _, _, rfl, _⟩ := h; rfl; done) | (rcases h with ⟨_, rfl | rfl, _⟩ <;> rfl) | (rcases h with ⟨_, _, rfl | rfl, _⟩ <;> rfl) | (rcases h with h | h <;> first | (obtain ⟨rfl, _⟩ := h; rfl; done) | (obtain ⟨_, rfl, _⟩ := h; rfl; done) | (obtain ⟨_, _, rfl, _⟩ := h; rfl; done) | (obtain ⟨_, _, _, rfl, _⟩ := h; rfl; done) | (obtain ⟨_, _, _, _, rfl, _⟩ := h; rfl; done) | (obtain ⟨_, _, _, _, _, rfl, _⟩ := h; rfl; done) | (obtain ⟨_, _, _, _, _, _, rfl, _⟩ := h; rfl; done) | (obtain ⟨_, _, _, _, _, _, _, rfl, _⟩ := h; rfl; done) | (obtain ⟨_, _, _, _, _, _, _, _, rfl, _⟩ := h; rfl; done) | (obtain ⟨_, _, _, _, _, _, _, _, _, rfl, _⟩ := h; rfl; done) | (rcases h with ⟨_, rfl | rfl, _⟩ <;> rfl))
  · have tk := takes_of (X := cxOf (L2.CX P w) P w K mg base ["self"] "Wishes.outcomes" (defScope s_W_outcomes) f cdv A outer s H E) rfl rfl rfl rfl
    have hp := passes_of (X := cxOf (L2.CX P w) P w K mg base ["self"] "Wishes.outcomes" (defScope s_W_outcomes) f cdv A outer s H E) rfl
    exact dss_one (ds_ret (de_tupleD rfl rfl T.m_tuple (de_fld T.c_Wishes T.n_Wishes_likes (de_var (pv 0)))))
theorem sc_W_item : FnScope ["self", "name"] ["self", "name"] (defScope s_W_item) := ⟨rfl, rfl, rfl, by decide +kernel, rfl, by decide +kernel, by decide +kernel⟩
theorem has_W_item (T : Txt K C mg) (h_UnknownName__init_ : HasE P w K mg base .UnknownName "name") {f : Addr} {fd : FuncData} (F : Fun K "__getitem__" "Wishes.__getitem__" s_W_item f fd) (m : PySem.W.findIn K (.ref C.W) "__getitem__" = some (some (.ref f))) (m1 : PySem.W.fnIn K f = true) (m2 : PySem.W.isFn K (.ref f) = true) (b : Binds K fd ["self", "name"] []) :
    HasX P w K mg base C.W 3 ["self", "name"] (S_W_item C) := by
  refine ⟨f, fd, m, m1, m2, b, fun_deep (T := (t_W_item C)) (k := 2) F sc_W_item ?_ (fun cdv A outer s H E hr => ?_) (rd_W_item (C := C))⟩
  · intro ds μ Q E h; first | (obtain ⟨rfl, _⟩ := h; rfl; done) | (obtain ⟨_, rfl, _⟩ := h; rfl; done) | (obtain ⟨_, _, rfl, _⟩ := h; rfl; done) | (obtain ⟨_, _, _, rfl, _⟩ := h; rfl; done) | (obtain ⟨_, _, _, _, rfl, _⟩ := h; rfl; done) | (obtain ⟨_, _, _, _, _, rfl, _⟩ := h; rfl; done) | (obtain ⟨_, _, _, _, _, _, rfl, _⟩ := h; rfl; done) | (obtain ⟨_, _, _, _, _, _, _, rfl, _⟩ := h; rfl; done) | (obtain ⟨_, _, _, _, _, _, _, _, rfl, _⟩ := h; rfl; done) | (obtain ⟨_, _, _, _, _, _, _, _, _, rfl, _⟩ := h; rfl; done) | (rcases h with ⟨_, rfl | rfl, _⟩ <;> rfl) | (rcases h with ⟨_, _, rfl | rfl, _⟩ <;> rfl) | (rcases h with h | h <;> first | (obtain ⟨rfl, _⟩ := h; rfl; done) | (obtain ⟨_, rfl, _⟩ := h; rfl; done) | (obtain ⟨_, _, rfl, _⟩ := h; rfl; done) | (obtain ⟨_, _, _, rfl, _⟩ := h; rfl; done) | (obtain ⟨_, _, _, _, rfl, _⟩ := h; rfl; done) | (obtain ⟨_, _, _, _, _, rfl, _⟩ := h; rfl; done) | (obtain ⟨_, _, _, _, _, _, rfl, _⟩ := h; rfl; done) | (obtain ⟨_, _, _, _, _, _, _, rfl, _⟩ := h; rfl; done) | (obtain ⟨_, _, _, _, _, _, _, _, rfl, _⟩ := h; rfl; done) | (obtain ⟨_, _, _, _, _, _, _, _, _, rfl, _⟩ := h; rfl; done) | (rcases h with ⟨_, rfl | rfl, _⟩ <;> rfl))
  · have tk := takes_of (X := cxOf (L2.CX P w) P w K mg base ["self", "name"] "Wishes.__getitem__" (defScope s_W_item) f cdv A outer s H E) rfl rfl rfl rfl
    have hp := passes_of (X := cxOf (L2.CX P w) P w K mg base ["self", "name"] "Wishes.__getitem__" (defScope s_W_item) f cdv A outer s H E) rfl
    exact dss_cons (ds_if (dt_dnotin (hu_of hr) (de_var (pv 1)) (de_fld T.c_Wishes T.n_Wishes_likes (de_var (pv 0)))) (dss_one (ds_raise h_UnknownName__init_ (hr.mono (by decide)) rfl tk (de_var (pv 1)))) (dss_nil))
      (dss_one (ds_ret (de_dget (hu_of hr) (de_fld T.c_Wishes T.n_Wishes_likes (de_var (pv 0))) (de_var (pv 1)))))
theorem sc_W_amountsC : FnScope ["self"] ["self"] (defScope s_W_amountsC) := ⟨rfl, rfl, rfl, by decide +kernel, rfl, by decide +kernel, by decide +kernel⟩
theorem has_W_amountsC (T : Txt K C mg)  {f : Addr} {fd : FuncData} (F : Fun K "amounts" "Wishes.amounts" s_W_amountsC f fd) (m : Meth K C.W "amounts" f) (b : Binds K fd ["self"] []) :
    HasM P w K mg base C.W "amounts" 1 ["self"] (S_W_amountsC C) := by
  refine ⟨f, fd, m, b, fun_deep (T := (t_W_amountsC C)) (k := 0) F sc_W_amountsC ?_ (fun cdv A outer s H E hr => ?_) (rd_W_amountsC (C := C))⟩
  · intro ds μ Q E h; first | (obtain ⟨rfl, _⟩ := h; rfl; done) | (obtain ⟨_, rfl, _⟩ := h; rfl; done) | (obtain ⟨_, _, rfl, _⟩ := h; rfl; done) | (obtain ⟨_, _, _, rfl, _⟩ := h; rfl; done) | (obtain ⟨_, _, _, _, rfl, _⟩ := h; rfl; done) | (obtain ⟨_, _, _, _, _, rfl, _⟩ := h; rfl; done) | (obtain ⟨_, _, _, _, _, _, rfl, _⟩ := h; rfl; done) | (obtain ⟨_, _, _, _, _, _, _, rfl, _⟩ := h; rfl; done) | (obtain ⟨_, _, _, _, _, _, _, _, rfl, _⟩ := h; rfl; done) | (obtain ⟨_, _, _, _, _, _, _, _, _, rfl, _⟩ := h; rfl; done) | (rcases h with ⟨_, rfl | rfl, _⟩ <;> rfl) | (rcases h with ⟨_, _, rfl | rfl, _⟩ <;> rfl) | (rcases h with h | h <;> first | (obtain ⟨rfl, _⟩ := h; rfl; done) | (obtain ⟨_, rfl, _⟩ := h; rfl; done) | (obtain ⟨_, _, rfl, _⟩ := h; rfl; done) | (obtain ⟨_, _, _, rfl, _⟩ := h; rfl; done) | (obtain ⟨_, _, _, _, rfl, _⟩ := h; rfl; done) | (obtain ⟨_, _, _, _, _, rfl, _⟩ := h; rfl; done) | (obtain ⟨_, _, _, _, _, _, rfl, _⟩ := h; rfl; done) | (obtain ⟨_, _, _, _, _, _, _, rfl, _⟩ := h; rfl; done) | (obtain ⟨_, _, _, _, _, _, _, _, rfl, _⟩ := h; rfl; done) | (obtain ⟨_, _, _, _, _, _, _, _, _, rfl, _⟩ := h; rfl; done) | (rcases h with ⟨_, rfl | rfl, _⟩ <;> rfl))
  · have tk := takes_of (X := cxOf (L2.CX P w) P w K mg base ["self"] "Wishes.amounts" (defScope s_W_amountsC) f cdv A outer s H E) rfl rfl rfl rfl
    have hp := passes_of (X := cxOf (L2.CX P w) P w K mg base ["self"] "Wishes.amounts" (defScope s_W_amountsC) f cdv A outer s H E) rfl
    exact dss_one (ds_ret (de_dictC false rfl T.m_dict (de_fld T.c_Wishes T.n_Wishes_likes (de_var (pv 0)))))
theorem sc_W_prefersX : FnScope ["self", "one", "other", "name"] ["self", "one", "other"] (defScope s_W_prefersX) := ⟨rfl, rfl, rfl, by decide +kernel, rfl, by decide +kernel, by decide +kernel⟩
def kb_W_prefersX (K : PySem.W.Frag) (fd : FuncData) : Prop := KBd K fd ["self", "one", "other"] 1 ["other", "one"] (up1 [1, 0])
theorem kb_W_prefersX_other_one : ∀ fd, kb_W_prefersX K fd → KBd K fd ["self", "one", "other"] 1 ["other", "one"] (up1 [1, 0]) := fun _ h => h
theorem has_W_prefersX (T : Txt K C mg) (h_UnknownName__init_ : HasE P w K mg base .UnknownName "name") {f : Addr} {fd : FuncData} (F : Fun K "prefers" "Wishes.prefers" s_W_prefersX f fd) (m : Meth K C.W "prefers" f) (b : Binds K fd ["self", "one", "other"] []) (kb : (kb_W_prefersX K) fd) :
    HasMk P w K mg base C.W "prefers" 3 ["self", "one", "other"] (S_W_prefersX C) (kb_W_prefersX K) := by
  refine ⟨f, fd, m, b, kb, fun_deep (T := (t_W_prefersX C)) (k := 2) F sc_W_prefersX ?_ (fun cdv A outer s H E hr => ?_) (rd_W_prefersX (C := C))⟩
  · intro ds μ Q E h; first | (obtain ⟨rfl, _⟩ := h; rfl; done) | (obtain ⟨_, rfl, _⟩ := h; rfl; done) | (obtain ⟨_, _, rfl, _⟩ := h; rfl; done) | (obtain ⟨_, _, _, rfl, _⟩ := h; rfl; done) | (obtain ⟨_, _, _, _, rfl, _⟩ := h; rfl; done) | (obtain ⟨_, _, _, _, _, rfl, _⟩ := h; rfl; done) | (obtain ⟨_, _, _, _, _, _, rfl, _⟩ := h; rfl; done) | (obtain ⟨_, _, _, _, _, _, _, rfl, _⟩ := h; rfl; done) | (obtain ⟨_, _, _, _, _, _, _, _, rfl, _⟩ := h; rfl; done) | (obtain ⟨_, _, _, _, _, _, _, _, _, rfl, _⟩ := h; rfl; done) | (rcases h with ⟨_, rfl | rfl, _⟩ <;> rfl) | (rcases h with ⟨_, _, rfl | rfl, _⟩ <;> rfl) | (rcases h with h | h <;> first | (obtain ⟨rfl, _⟩ := h; rfl; done) | (obtain ⟨_, rfl, _⟩ := h; rfl; done) | (obtain ⟨_, _, rfl, _⟩ := h; rfl; done) | (obtain ⟨_, _, _, rfl, _⟩ := h; rfl; done) | (obtain ⟨_, _, _, _, rfl, _⟩ := h; rfl; done) | (obtain ⟨_, _, _, _, _, rfl, _⟩ := h; rfl; done) | (obtain ⟨_, _, _, _, _, _, rfl, _⟩ := h; rfl; done) | (obtain ⟨_, _, _, _, _, _, _, rfl, _⟩ := h; rfl; done) | (obtain ⟨_, _, _, _, _, _, _, _, rfl, _⟩ := h; rfl; done) | (obtain ⟨_, _, _, _, _, _, _, _, _, rfl, _⟩ := h; rfl; done) | (rcases h with ⟨_, rfl | rfl, _⟩ <;> rfl))
  · have tk := takes_of (X := cxOf (L2.CX P w) P w K mg base ["self", "one", "other", "name"] "Wishes.prefers" (defScope s_W_prefersX) f cdv A outer s H E) rfl rfl rfl rfl
    have hp := passes_of (X := cxOf (L2.CX P w) P w K mg base ["self", "one", "other", "name"] "Wishes.prefers" (defScope s_W_prefersX) f cdv A outer s H E) rfl
    exact dss_cons (ds_for hp rfl (di_any (de_tup (da_cons (de_var (pv 1)) (da_cons (de_var (pv 2)) (da_nil))))) (dg_name (pg_name (i := 3) sc_W_prefersX.nd rfl (by first | exact Or.inl rfl | exact Or.inr rfl))) (dss_one (ds_if (dt_dnotin (hu_of hr) (de_var (pv 3)) (de_fld T.c_Wishes T.n_Wishes_likes (de_var (pv 0)))) (dss_one (ds_raise h_UnknownName__init_ (hr.mono (by decide)) rfl tk (de_var (pv 3)))) (dss_nil))))
      (dss_one (ds_ret (de_gt (de_dget (hu_of hr) (de_fld T.c_Wishes T.n_Wishes_likes (de_var (pv 0))) (de_var (pv 1))) (de_dget (hu_of hr) (de_fld T.c_Wishes T.n_Wishes_likes (de_var (pv 0))) (de_var (pv 2))))))
theorem sc_W_best : FnScope ["self", "names", "name", "most"] ["self", "names"] (defScope s_W_best) := ⟨rfl, rfl, rfl, by decide +kernel, rfl, by decide +kernel, by decide +kernel⟩
def kb_W_best (K : PySem.W.Frag) (fd : FuncData) : Prop := KBd K fd ["self", "names"] 1 ["names"] (up1 [0])
theorem kb_W_best_names : ∀ fd, kb_W_best K fd → KBd K fd ["self", "names"] 1 ["names"] (up1 [0]) := fun _ h => h
theorem has_W_best (T : Txt K C mg) (h_BadCount__init_ : HasE P w K mg base .BadCount "count") (h_UnknownName__init_ : HasE P w K mg base .UnknownName "name") {f : Addr} {fd : FuncData} (F : Fun K "best" "Wishes.best" s_W_best f fd) (m : Meth K C.W "best" f) (b : Binds K fd ["self", "names"] []) (kb : (kb_W_best K) fd) :
    HasMk P w K mg base C.W "best" 3 ["self", "names"] (S_W_best C) (kb_W_best K) := by
  refine ⟨f, fd, m, b, kb, fun_deep (T := (t_W_best C)) (k := 2) F sc_W_best ?_ (fun cdv A outer s H E hr => ?_) (rd_W_best (C := C))⟩
  · intro ds μ Q E h; first | (obtain ⟨rfl, _⟩ := h; rfl; done) | (obtain ⟨_, rfl, _⟩ := h; rfl; done) | (obtain ⟨_, _, rfl, _⟩ := h; rfl; done) | (obtain ⟨_, _, _, rfl, _⟩ := h; rfl; done) | (obtain ⟨_, _, _, _, rfl, _⟩ := h; rfl; done) | (obtain ⟨_, _, _, _, _, rfl, _⟩ := h; rfl; done) | (obtain ⟨_, _, _, _, _, _, rfl, _⟩ := h; rfl; done) | (obtain ⟨_, _, _, _, _, _, _, rfl, _⟩ := h; rfl; done) | (obtain ⟨_, _, _, _, _, _, _, _, rfl, _⟩ := h; rfl; done) | (obtain ⟨_, _, _, _, _, _, _, _, _, rfl, _⟩ := h; rfl; done) | (rcases h with ⟨_, rfl | rfl, _⟩ <;> rfl) | (rcases h with ⟨_, _, rfl | rfl, _⟩ <;> rfl) | (rcases h with h | h <;> first | (obtain ⟨rfl, _⟩ := h; rfl; done) | (obtain ⟨_, rfl, _⟩ := h; rfl; done) | (obtain ⟨_, _, rfl, _⟩ := h; rfl; done) | (obtain ⟨_, _, _, rfl, _⟩ := h; rfl; done) | (obtain ⟨_, _, _, _, rfl, _⟩ := h; rfl; done) | (obtain ⟨_, _, _, _, _, rfl, _⟩ := h; rfl; done) | (obtain ⟨_, _, _, _, _, _, rfl, _⟩ := h; rfl; done) | (obtain ⟨_, _, _, _, _, _, _, rfl, _⟩ := h; rfl; done) | (obtain ⟨_, _, _, _, _, _, _, _, rfl, _⟩ := h; rfl; done) | (obtain ⟨_, _, _, _, _, _, _, _, _, rfl, _⟩ := h; rfl; done) | (rcases h with ⟨_, rfl | rfl, _⟩ <;> rfl))
  · have tk := takes_of (X := cxOf (L2.CX P w) P w K mg base ["self", "names", "name", "most"] "Wishes.best" (defScope s_W_best) f cdv A outer s H E) rfl rfl rfl rfl
    have hp := passes_of (X := cxOf (L2.CX P w) P w K mg base ["self", "names", "name", "most"] "Wishes.best" (defScope s_W_best) f cdv A outer s H E) rfl
    exact dss_cons (ds_if (dt_eq hr.units (de_len rfl T.m_len (de_var (pv 1))) (de_int pe_int)) (dss_one (ds_raise h_BadCount__init_ (hr.mono (by decide)) rfl tk (de_int pe_int))) (dss_nil))
      (dss_cons (ds_for hp rfl (di_any (de_var (pv 1))) (dg_name (pg_name (i := 2) sc_W_best.nd rfl (by first | exact Or.inl rfl | exact Or.inr rfl))) (dss_one (ds_if (dt_dnotin (hu_of hr) (de_var (pv 2)) (de_fld T.c_Wishes T.n_Wishes_likes (de_var (pv 0)))) (dss_one (ds_raise h_UnknownName__init_ (hr.mono (by decide)) rfl tk (de_var (pv 2)))) (dss_nil))))
      (dss_cons (ds_set (i := 3) (de_maxL rfl rfl T.m_max (de_lc (fz := true) (own := [("name", 2)]) rfl sc_W_best.nd (di_any (de_var (pv 1))) (blkOk_by (N := ["self", "names", "name", "most"]) (sc := defScope s_W_best) (own := [("name", 2)]) (by decide +kernel)) (ct_name (by decide)) (fun _ _ _ _ _ => pg_name (i := 2) sc_W_best.nd rfl (by first | exact Or.inl rfl | exact Or.inr rfl)) (fun _ _ _ _ _ => dts_nil) (fun _ _ _ _ _ => de_dget (hu_of hr) (de_fld T.c_Wishes T.n_Wishes_likes (de_var (pv 0))) (de_var (pv 2))))) sc_W_best.nd)
      (dss_one (ds_ret (de_tuple rfl T.m_tuple (de_lc (fz := true) (own := [("name", 2)]) rfl sc_W_best.nd (di_keys (de_fld T.c_Wishes T.n_Wishes_likes (de_var (pv 0)))) (blkOk_by (N := ["self", "names", "name", "most"]) (sc := defScope s_W_best) (own := [("name", 2)]) (by decide +kernel)) (ct_name (by decide)) (fun _ _ _ _ _ => pg_name (i := 2) sc_W_best.nd rfl (by first | exact Or.inl rfl | exact Or.inr rfl)) (fun _ _ _ _ _ => dts_one (PW.pt (pw_and' (dt_in (de_var (pv 2)) (de_var (pv 1))) (pw_and1 (dt_eq hr.units (de_dget (hu_of hr) (de_fld T.c_Wishes T.n_Wishes_likes (de_var (pv 0))) (de_var (pv 2))) (de_var (pv 3))))))) (fun _ _ _ _ _ => de_var (pv 2))))))))
theorem sc_W_ranks : FnScope ["self", "found", "left", "best", "name"] ["self"] (defScope s_W_ranks) := ⟨rfl, rfl, rfl, by decide +kernel, rfl, by decide +kernel, by decide +kernel⟩
theorem has_W_ranks (T : Txt K C mg) (h_W_best : HasMk P w K mg base C.W "best" 3 ["self", "names"] (S_W_best C) (kb_W_best K)) {f : Addr} {fd : FuncData} (F : Fun K "ranks" "Wishes.ranks" s_W_ranks f fd) (m : Meth K C.W "ranks" f) (b : Binds K fd ["self"] []) :
    HasM P w K mg base C.W "ranks" 4 ["self"] (S_W_ranks3 C) := by
  refine ⟨f, fd, m, b, fun_deep (T := (t_W_ranks C)) (k := 3) F sc_W_ranks ?_ (fun cdv A outer s H E hr => ?_) (rd_W_ranks3 (C := C))⟩
  · intro ds μ Q E h; first | (obtain ⟨rfl, _⟩ := h; rfl; done) | (obtain ⟨_, rfl, _⟩ := h; rfl; done) | (obtain ⟨_, _, rfl, _⟩ := h; rfl; done) | (obtain ⟨_, _, _, rfl, _⟩ := h; rfl; done) | (obtain ⟨_, _, _, _, rfl, _⟩ := h; rfl; done) | (obtain ⟨_, _, _, _, _, rfl, _⟩ := h; rfl; done) | (obtain ⟨_, _, _, _, _, _, rfl, _⟩ := h; rfl; done) | (obtain ⟨_, _, _, _, _, _, _, rfl, _⟩ := h; rfl; done) | (obtain ⟨_, _, _, _, _, _, _, _, rfl, _⟩ := h; rfl; done) | (obtain ⟨_, _, _, _, _, _, _, _, _, rfl, _⟩ := h; rfl; done) | (rcases h with ⟨_, rfl | rfl, _⟩ <;> rfl) | (rcases h with ⟨_, _, rfl | rfl, _⟩ <;> rfl) | (rcases h with h | h <;> first | (obtain ⟨rfl, _⟩ := h; rfl; done) | (obtain ⟨_, rfl, _⟩ := h; rfl; done) | (obtain ⟨_, _, rfl, _⟩ := h; rfl; done) | (obtain ⟨_, _, _, rfl, _⟩ := h; rfl; done) | (obtain ⟨_, _, _, _, rfl, _⟩ := h; rfl; done) | (obtain ⟨_, _, _, _, _, rfl, _⟩ := h; rfl; done) | (obtain ⟨_, _, _, _, _, _, rfl, _⟩ := h; rfl; done) | (obtain ⟨_, _, _, _, _, _, _, rfl, _⟩ := h; rfl; done) | (obtain ⟨_, _, _, _, _, _, _, _, rfl, _⟩ := h; rfl; done) | (obtain ⟨_, _, _, _, _, _, _, _, _, rfl, _⟩ := h; rfl; done) | (rcases h with ⟨_, rfl | rfl, _⟩ <;> rfl))
  · have tk := takes_of (X := cxOf (L2.CX P w) P w K mg base ["self", "found", "left", "best", "name"] "Wishes.ranks" (defScope s_W_ranks) f cdv A outer s H E) rfl rfl rfl rfl
    have hp := passes_of (X := cxOf (L2.CX P w) P w K mg base ["self", "found", "left", "best", "name"] "Wishes.ranks" (defScope s_W_ranks) f cdv A outer s H E) rfl
    exact dss_cons (ds_set (i := 1) (de_lstM (da_nil)) sc_W_ranks.nd)
      (dss_cons (ds_set (i := 2) (de_listD true rfl rfl T.m_list (de_fld T.c_Wishes T.n_Wishes_likes (de_var (pv 0)))) sc_W_ranks.nd)
      (dss_cons (ds_while hp (dt_gt (de_len rfl T.m_len (de_var (pv 2))) (de_int pe_int)) (dss_cons (ds_set (i := 3) (de_methH T.c_Wishes h_W_best.i (hr.mono (by decide)) tk (de_var (pv 0)) (da_cons (de_var (pv 2)) (da_nil))) sc_W_ranks.nd)
      (dss_cons (ds_drop (de_append (de_var (pv 1)) (de_var (pv 3))))
      (dss_one (ds_setLc (i := 2) (fz := true) (own := [("name", 4)]) rfl sc_W_ranks.nd rfl rfl (sw_true rfl rfl rfl (by decide +kernel)) (di_any (de_var (pv 2))) (blkOk_by (N := ["self", "found", "left", "best", "name"]) (sc := defScope s_W_ranks) (own := [("name", 4)]) (by decide +kernel)) (ct_name (by decide)) (fun _ _ _ _ _ => pg_name (i := 4) sc_W_ranks.nd rfl (by first | exact Or.inl rfl | exact Or.inr rfl)) (fun _ _ _ _ _ => dts_one (dt_notin (de_var (pv 4)) (de_var (pv 3)))) (fun _ _ _ _ _ => de_var (pv 4)))))))
      (dss_one (ds_ret (de_var (pv 1))))))
theorem sc_start : FnScope ["_law_script", "_law_cell"] ["_law_script"] (defScope s_start) := ⟨rfl, rfl, rfl, by decide +kernel, rfl, by decide +kernel, by decide +kernel⟩
theorem has_start (T : Txt K C mg)  {f : Addr} {fd : FuncData} (F : Fun K "_law_start" "_law_start" s_start f fd) (m : mg "_law_start" = some (.ref f)) (b : Binds K fd ["_law_script"] []) (kb : (fun _ => True) fd) :
    Has P w K mg base "_law_start" 1 ["_law_script"] S_start (fun _ => True) := by
  refine ⟨f, fd, m, F.kp, b, kb, FnOk.imp (fun_deep (T := t_start) (k := 0) F sc_start ?_ (fun cdv A outer s H E hr => ?_) rd_startE) start_orc⟩
  · intro ds μ Q E h; first | (obtain ⟨_, rfl, _⟩ := h; rfl; done) | (obtain ⟨rfl, _⟩ := h; rfl; done) | (obtain ⟨_, rfl, _⟩ := h; rfl; done) | (obtain ⟨_, _, rfl, _⟩ := h; rfl; done) | (obtain ⟨_, _, _, rfl, _⟩ := h; rfl; done) | (obtain ⟨_, _, _, _, rfl, _⟩ := h; rfl; done) | (obtain ⟨_, _, _, _, _, rfl, _⟩ := h; rfl; done) | (obtain ⟨_, _, _, _, _, _, rfl, _⟩ := h; rfl; done) | (obtain ⟨_, _, _, _, _, _, _, rfl, _⟩ := h; rfl; done) | (obtain ⟨_, _, _, _, _, _, _, _, rfl, _⟩ := h; rfl; done) | (obtain ⟨_, _, _, _, _, _, _, _, _, rfl, _⟩ := h; rfl; done) | (rcases h with ⟨_, rfl | rfl, _⟩ <;> rfl) | (rcases h with ⟨_, _, rfl | rfl, _⟩ <;> rfl) | (rcases h with h | h <;> first | (obtain ⟨rfl, _⟩ := h; rfl; done) | (obtain ⟨_, rfl, _⟩ := h; rfl; done) | (obtain ⟨_, _, rfl, _⟩ := h; rfl; done) | (obtain ⟨_, _, _, rfl, _⟩ := h; rfl; done) | (obtain ⟨_, _, _, _, rfl, _⟩ := h; rfl; done) | (obtain ⟨_, _, _, _, _, rfl, _⟩ := h; rfl; done) | (obtain ⟨_, _, _, _, _, _, rfl, _⟩ := h; rfl; done) | (obtain ⟨_, _, _, _, _, _, _, rfl, _⟩ := h; rfl; done) | (obtain ⟨_, _, _, _, _, _, _, _, rfl, _⟩ := h; rfl; done) | (obtain ⟨_, _, _, _, _, _, _, _, _, rfl, _⟩ := h; rfl; done) | (rcases h with ⟨_, rfl | rfl, _⟩ <;> rfl))
  · have tk := takes_of (X := cxOf (L2.CX P w) P w K mg base ["_law_script", "_law_cell"] "_law_start" (defScope s_start) f cdv A outer s H E) rfl rfl rfl rfl
    have hp := passes_of (X := cxOf (L2.CX P w) P w K mg base ["_law_script", "_law_cell"] "_law_start" (defScope s_start) f cdv A outer s H E) rfl
    exact dss_one (ds_ret (de_lstM (da_cons (de_lc (fz := false) (own := [("_law_cell", 1)]) rfl sc_start.nd (di_any (de_var (pv 0))) (blkOk_by (N := ["_law_script", "_law_cell"]) (sc := defScope s_start) (own := [("_law_cell", 1)]) (by decide +kernel)) (ct_name (by decide)) (fun _ _ _ _ _ => pg_name (i := 1) sc_start.nd rfl (by first | exact Or.inl rfl | exact Or.inr rfl)) (fun _ _ _ _ _ => dts_one (dt_ge (de_abs rfl T.m_abs (de_var (pv 1))) (de_pow (de_int pe_int) (de_int pe_int)))) (fun _ _ _ _ _ => de_abs rfl T.m_abs (de_var (pv 1)))) (da_cons (de_addM (de_list true rfl T.m_list (de_var (pv 0))) (de_lst (da_cons (de_int pe_int) (da_nil)))) (da_cons (de_int pe_int) (da_nil))))))
theorem sc_draw : FnScope ["_law_state", "_law_size", "_law_digit", "_law_cell", "_law_left"] ["_law_state", "_law_size"] (defScope s_draw) := ⟨rfl, rfl, rfl, by decide +kernel, rfl, by decide +kernel, by decide +kernel⟩
theorem has_draw (T : Txt K C mg)  {f : Addr} {fd : FuncData} (F : Fun K "_law_draw" "_law_draw" s_draw f fd) (m : mg "_law_draw" = some (.ref f)) (b : Binds K fd ["_law_state", "_law_size"] []) (kb : (fun _ => True) fd) :
    Has P w K mg base "_law_draw" 1 ["_law_state", "_law_size"] S_draw (fun _ => True) := by
  refine ⟨f, fd, m, F.kp, b, kb, FnOk.imp (fun_deep (T := t_draw) (k := 0) F sc_draw ?_ (fun cdv A outer s H E hr => ?_) rd_drawE) draw_orc⟩
  · intro ds μ Q E h; first | (obtain ⟨_, _, _, _, _, _, _, rfl, _⟩ := h; rfl; done) | (obtain ⟨rfl, _⟩ := h; rfl; done) | (obtain ⟨_, rfl, _⟩ := h; rfl; done) | (obtain ⟨_, _, rfl, _⟩ := h; rfl; done) | (obtain ⟨_, _, _, rfl, _⟩ := h; rfl; done) | (obtain ⟨_, _, _, _, rfl, _⟩ := h; rfl; done) | (obtain ⟨_, _, _, _, _, rfl, _⟩ := h; rfl; done) | (obtain ⟨_, _, _, _, _, _, rfl, _⟩ := h; rfl; done) | (obtain ⟨_, _, _, _, _, _, _, rfl, _⟩ := h; rfl; done) | (obtain ⟨_, _, _, _, _, _, _, _, rfl, _⟩ := h; rfl; done) | (obtain ⟨_, _, _, _, _, _, _, _, _, rfl, _⟩ := h; rfl; done) | (rcases h with ⟨_, rfl | rfl, _⟩ <;> rfl) | (rcases h with ⟨_, _, rfl | rfl, _⟩ <;> rfl) | (rcases h with h | h <;> first | (obtain ⟨rfl, _⟩ := h; rfl; done) | (obtain ⟨_, rfl, _⟩ := h; rfl; done) | (obtain ⟨_, _, rfl, _⟩ := h; rfl; done) | (obtain ⟨_, _, _, rfl, _⟩ := h; rfl; done) | (obtain ⟨_, _, _, _, rfl, _⟩ := h; rfl; done) | (obtain ⟨_, _, _, _, _, rfl, _⟩ := h; rfl; done) | (obtain ⟨_, _, _, _, _, _, rfl, _⟩ := h; rfl; done) | (obtain ⟨_, _, _, _, _, _, _, rfl, _⟩ := h; rfl; done) | (obtain ⟨_, _, _, _, _, _, _, _, rfl, _⟩ := h; rfl; done) | (obtain ⟨_, _, _, _, _, _, _, _, _, rfl, _⟩ := h; rfl; done) | (rcases h with ⟨_, rfl | rfl, _⟩ <;> rfl))
  · have tk := takes_of (X := cxOf (L2.CX P w) P w K mg base ["_law_state", "_law_size", "_law_digit", "_law_cell", "_law_left"] "_law_draw" (defScope s_draw) f cdv A outer s H E) rfl rfl rfl rfl
    have hp := passes_of (X := cxOf (L2.CX P w) P w K mg base ["_law_state", "_law_size", "_law_digit", "_law_cell", "_law_left"] "_law_draw" (defScope s_draw) f cdv A outer s H E) rfl
    exact dss_cons (ds_augI (de_var (pv 0)) (de_int pe_int) (de_int pe_int) ip_add)
      (dss_cons (ds_while hp (PW.pt (pw_and' (dt_ne hr.units (de_sub_ (de_var (pv 0)) (de_int pe_int)) (de_lst (da_nil))) (pw_and1 (dt_eq hr.units (de_sub_ (de_sub_ (de_var (pv 0)) (de_int pe_int)) (de_int pe_int)) (de_int pe_int))))) (dss_one (ds_asg (de_slice false (de_sub_ (de_var (pv 0)) (de_int pe_int)) (do_some (de_int pe_int)) do_none) (dg_setI (de_var (pv 0)) (de_int pe_int) (pg_sub (de_var (pv 0)) (de_int pe_int) set_list)))))
      (dss_cons (ds_if (dt_ne hr.units (de_sub_ (de_var (pv 0)) (de_int pe_int)) (de_lst (da_nil))) (dss_cons (ds_set (i := 2) (de_mod (de_intC rfl T.m_int (de_sub_ (de_sub_ (de_var (pv 0)) (de_int pe_int)) (de_int pe_int))) (de_var (pv 1))) sc_draw.nd)
      (dss_cons (ds_asg (de_fdiv (de_sub_ (de_sub_ (de_var (pv 0)) (de_int pe_int)) (de_int pe_int)) (de_var (pv 1))) (dg_setI (de_sub_ (de_var (pv 0)) (de_int pe_int)) (de_int pe_int) (pg_sub (de_sub_ (de_var (pv 0)) (de_int pe_int)) (de_int pe_int) set_list)))
      (dss_one (ds_ret (de_var (pv 2)))))) (dss_nil))
      (dss_cons (ds_set (i := 3) (de_mod (de_intC rfl T.m_int (de_sub_ (de_sub_ (de_var (pv 0)) (de_int pe_int)) (de_mod (de_intC rfl T.m_int (de_sub_ (de_var (pv 0)) (de_int pe_int))) (de_len rfl T.m_len (de_sub_ (de_var (pv 0)) (de_int pe_int)))))) (de_int pe_int)) sc_draw.nd)
      (dss_cons (ds_set (i := 4) (de_mod (de_intC rfl T.m_int (de_pow (de_add (de_add (de_mul (de_var (pv 3)) (de_int pe_int)) (de_mul (de_sub_ (de_var (pv 0)) (de_int pe_int)) (de_int pe_int))) (de_int pe_int)) (de_int pe_int))) (de_int pe_int)) sc_draw.nd)
      (dss_one (ds_ret (de_mod (de_mod (de_intC rfl T.m_int (de_pow (de_add (de_add (de_mul (de_var (pv 4)) (de_int pe_int)) (de_mul (de_sub_ (de_var (pv 0)) (de_int pe_int)) (de_int pe_int))) (de_int pe_int)) (de_int pe_int))) (de_int pe_int)) (de_var (pv 1)))))))))
theorem sc_names : FnScope ["_law_state", "_law_count", "_law_signs", "_law_stem", "_law_letter", "_law_offset", "_law_stride", "_law_plan", "_law_step", "_law_whole", "_law_words", "_law_k", "_law_sign", "_law_back"] ["_law_state", "_law_count"] (defScope s_names) := ⟨rfl, rfl, rfl, by decide +kernel, rfl, by decide +kernel, by decide +kernel⟩
theorem has_names (T : Txt K C mg) (h_draw : Has P w K mg base "_law_draw" 1 ["_law_state", "_law_size"] S_draw (fun _ => True)) {f : Addr} {fd : FuncData} (F : Fun K "_law_names" "_law_names" s_names f fd) (m : mg "_law_names" = some (.ref f)) (b : Binds K fd ["_law_state", "_law_count"] []) (kb : (fun _ => True) fd) :
    Has P w K mg base "_law_names" 2 ["_law_state", "_law_count"] S_names (fun _ => True) := by
  refine ⟨f, fd, m, F.kp, b, kb, fun_deep (T := t_names) (k := 1) F sc_names ?_ (fun cdv A outer s H E hr => ?_) rd_names⟩
  · intro ds μ Q E h; first | (obtain ⟨_, _, _, rfl, _⟩ := h; rfl; done) | (obtain ⟨rfl, _⟩ := h; rfl; done) | (obtain ⟨_, rfl, _⟩ := h; rfl; done) | (obtain ⟨_, _, rfl, _⟩ := h; rfl; done) | (obtain ⟨_, _, _, rfl, _⟩ := h; rfl; done) | (obtain ⟨_, _, _, _, rfl, _⟩ := h; rfl; done) | (obtain ⟨_, _, _, _, _, rfl, _⟩ := h; rfl; done) | (obtain ⟨_, _, _, _, _, _, rfl, _⟩ := h; rfl; done) | (obtain ⟨_, _, _, _, _, _, _, rfl, _⟩ := h; rfl; done) | (obtain ⟨_, _, _, _, _, _, _, _, rfl, _⟩ := h; rfl; done) | (obtain ⟨_, _, _, _, _, _, _, _, _, rfl, _⟩ := h; rfl; done) | (rcases h with ⟨_, rfl | rfl, _⟩ <;> rfl) | (rcases h with ⟨_, _, rfl | rfl, _⟩ <;> rfl) | (rcases h with h | h <;> first | (obtain ⟨rfl, _⟩ := h; rfl; done) | (obtain ⟨_, rfl, _⟩ := h; rfl; done) | (obtain ⟨_, _, rfl, _⟩ := h; rfl; done) | (obtain ⟨_, _, _, rfl, _⟩ := h; rfl; done) | (obtain ⟨_, _, _, _, rfl, _⟩ := h; rfl; done) | (obtain ⟨_, _, _, _, _, rfl, _⟩ := h; rfl; done) | (obtain ⟨_, _, _, _, _, _, rfl, _⟩ := h; rfl; done) | (obtain ⟨_, _, _, _, _, _, _, rfl, _⟩ := h; rfl; done) | (obtain ⟨_, _, _, _, _, _, _, _, rfl, _⟩ := h; rfl; done) | (obtain ⟨_, _, _, _, _, _, _, _, _, rfl, _⟩ := h; rfl; done) | (rcases h with ⟨_, rfl | rfl, _⟩ <;> rfl))
  · have tk := takes_of (X := cxOf (L2.CX P w) P w K mg base ["_law_state", "_law_count", "_law_signs", "_law_stem", "_law_letter", "_law_offset", "_law_stride", "_law_plan", "_law_step", "_law_whole", "_law_words", "_law_k", "_law_sign", "_law_back"] "_law_names" (defScope s_names) f cdv A outer s H E) rfl rfl rfl rfl
    have hp := passes_of (X := cxOf (L2.CX P w) P w K mg base ["_law_state", "_law_count", "_law_signs", "_law_stem", "_law_letter", "_law_offset", "_law_stride", "_law_plan", "_law_step", "_law_whole", "_law_words", "_law_k", "_law_sign", "_law_back"] "_law_names" (defScope s_names) f cdv A outer s H E) rfl
    exact dss_cons (ds_set (i := 2) (de_str pe_str) sc_names.nd)
      (dss_cons (ds_set (i := 3) (de_join (de_str pe_str) (de_lc (fz := true) (own := [("_law_k", 11)]) rfl sc_names.nd (di_range1 rfl T.m_range (de_fnH h_draw (hr.mono (by decide)) rfl tk (da_cons (de_var (pv 0)) (da_cons (de_int pe_int) (da_nil))))) (blkOk_by (N := ["_law_state", "_law_count", "_law_signs", "_law_stem", "_law_letter", "_law_offset", "_law_stride", "_law_plan", "_law_step", "_law_whole", "_law_words", "_law_k", "_law_sign", "_law_back"]) (sc := defScope s_names) (own := [("_law_k", 11)]) (by decide +kernel)) (ct_name (by decide)) (fun _ _ _ _ _ => pg_name (i := 11) sc_names.nd rfl (by first | exact Or.inl rfl | exact Or.inr rfl)) (fun _ _ _ _ _ => dts_nil) (fun _ _ _ _ _ => de_sub_ (de_var (pv 2)) (de_fnH h_draw (hr.mono (by decide)) rfl takes0 (da_cons (de_var (pv 0)) (da_cons (de_int pe_int) (da_nil))))))) sc_names.nd)
      (dss_cons (ds_set (i := 4) (de_sub_ (de_var (pv 2)) (de_fnH h_draw (hr.mono (by decide)) rfl tk (da_cons (de_var (pv 0)) (da_cons (de_int pe_int) (da_nil))))) sc_names.nd)
      (dss_cons (ds_set (i := 5) (de_fnH h_draw (hr.mono (by decide)) rfl tk (da_cons (de_var (pv 0)) (da_cons (de_int pe_int) (da_nil)))) sc_names.nd)
      (dss_cons (ds_set (i := 6) (de_sub_ (de_lst (da_cons (de_int pe_int) (da_cons (de_int pe_int) (da_cons (de_int pe_int) (da_cons (de_int pe_int) (da_cons (de_int pe_int) (da_cons (de_int pe_int) (da_nil)))))))) (de_fnH h_draw (hr.mono (by decide)) rfl tk (da_cons (de_var (pv 0)) (da_cons (de_int pe_int) (da_nil))))) sc_names.nd)
      (dss_cons (ds_set (i := 7) (de_fnH h_draw (hr.mono (by decide)) rfl tk (da_cons (de_var (pv 0)) (da_cons (de_int pe_int) (da_nil)))) sc_names.nd)
      (dss_cons (ds_if (PW.pt (pw_and' (dt_eq hr.units (de_var (pv 7)) (de_int pe_int)) (pw_and1 (dt_lt (de_var (pv 1)) (de_int pe_int))))) (dss_one (ds_ret (de_slice true (de_lst (da_cons (de_str pe_str) (da_cons (de_str pe_str) (da_cons (de_str pe_str) (da_cons (de_str pe_str) (da_cons (de_str pe_str) (da_cons (de_str pe_str) (da_nil)))))))) do_none (do_some (de_var (pv 1)))))) (dss_nil))
      (dss_cons (ds_if (PW.pt (pw_or' (dt_eq hr.units (de_var (pv 7)) (de_int pe_int)) (pw_or1 (PW.pt (pw_and' (dt_eq hr.units (de_var (pv 7)) (de_int pe_int)) (pw_and1 (dt_gt (de_var (pv 1)) (de_int pe_int)))))))) (dss_cons (ds_set (i := 8) (de_add (de_int pe_int) (de_fnH h_draw (hr.mono (by decide)) rfl tk (da_cons (de_var (pv 0)) (da_cons (de_int pe_int) (da_nil))))) sc_names.nd)
      (dss_one (ds_ret (de_lc (fz := true) (own := [("_law_k", 11)]) rfl sc_names.nd (di_range1 rfl T.m_range (de_var (pv 1))) (blkOk_by (N := ["_law_state", "_law_count", "_law_signs", "_law_stem", "_law_letter", "_law_offset", "_law_stride", "_law_plan", "_law_step", "_law_whole", "_law_words", "_law_k", "_law_sign", "_law_back"]) (sc := defScope s_names) (own := [("_law_k", 11)]) (by decide +kernel)) (ct_name (by decide)) (fun _ _ _ _ _ => pg_name (i := 11) sc_names.nd rfl (by first | exact Or.inl rfl | exact Or.inr rfl)) (fun _ _ _ _ _ => dts_nil) (fun _ _ _ _ _ => de_add (de_var (pv 4)) (de_strC rfl T.m_str (de_mul (de_var (pv 8)) (de_add (de_var (pv 11)) (de_int pe_int))))))))) (dss_nil))
      (dss_cons (ds_if (dt_eq hr.units (de_var (pv 7)) (de_int pe_int)) (dss_cons (ds_set (i := 9) (de_add (de_var (pv 4)) (de_join (de_str pe_str) (de_lc (fz := true) (own := [("_law_k", 11)]) rfl sc_names.nd (di_range1 rfl T.m_range (de_int pe_int)) (blkOk_by (N := ["_law_state", "_law_count", "_law_signs", "_law_stem", "_law_letter", "_law_offset", "_law_stride", "_law_plan", "_law_step", "_law_whole", "_law_words", "_law_k", "_law_sign", "_law_back"]) (sc := defScope s_names) (own := [("_law_k", 11)]) (by decide +kernel)) (ct_name (by decide)) (fun _ _ _ _ _ => pg_name (i := 11) sc_names.nd rfl (by first | exact Or.inl rfl | exact Or.inr rfl)) (fun _ _ _ _ _ => dts_nil) (fun _ _ _ _ _ => de_sub_ (de_var (pv 2)) (de_fnH h_draw (hr.mono (by decide)) rfl takes0 (da_cons (de_var (pv 0)) (da_cons (de_int pe_int) (da_nil)))))))) sc_names.nd)
      (dss_one (ds_ret (de_lc (fz := true) (own := [("_law_k", 11)]) rfl sc_names.nd (di_range1 rfl T.m_range (de_var (pv 1))) (blkOk_by (N := ["_law_state", "_law_count", "_law_signs", "_law_stem", "_law_letter", "_law_offset", "_law_stride", "_law_plan", "_law_step", "_law_whole", "_law_words", "_law_k", "_law_sign", "_law_back"]) (sc := defScope s_names) (own := [("_law_k", 11)]) (by decide +kernel)) (ct_name (by decide)) (fun _ _ _ _ _ => pg_name (i := 11) sc_names.nd rfl (by first | exact Or.inl rfl | exact Or.inr rfl)) (fun _ _ _ _ _ => dts_nil) (fun _ _ _ _ _ => de_slice true (de_var (pv 9)) do_none (do_some (de_add (de_var (pv 11)) (de_int pe_int)))))))) (dss_nil))
      (dss_cons (ds_set (i := 10) (de_lstM (da_nil)) sc_names.nd)
      (dss_cons (ds_for hp rfl (di_range1 rfl T.m_range (de_var (pv 1))) (dg_name (pg_name (i := 11) sc_names.nd rfl (by first | exact Or.inl rfl | exact Or.inr rfl))) (dss_cons (ds_set (i := 12) (de_sub_ (de_var (pv 2)) (de_mod (de_intC rfl T.m_int (de_add (de_var (pv 5)) (de_mul (de_var (pv 6)) (de_var (pv 11))))) (de_int pe_int))) sc_names.nd)
      (dss_cons (ds_set (i := 13) (de_sub_ (de_lst (da_cons (de_var (pv 3)) (da_cons (de_str pe_str) (da_nil)))) (de_intC rfl T.m_int (de_and (de_gt (de_var (pv 7)) (de_int pe_int)) (de_one (de_eq hr.units (de_mod (de_var (pv 11)) (de_int pe_int)) (de_int pe_int)))))) sc_names.nd)
      (dss_one (ds_drop (de_append (de_var (pv 10)) (de_sub_ (de_lst (da_cons (de_add (de_add (de_var (pv 4)) (de_var (pv 13))) (de_var (pv 12))) (da_cons (de_add (de_var (pv 12)) (de_var (pv 13))) (da_nil)))) (de_mod (de_intC rfl T.m_int (de_var (pv 7))) (de_int pe_int)))))))))
      (dss_one (ds_ret (de_var (pv 10))))))))))))))
theorem sc_order : FnScope ["_law_state", "_law_items", "_law_left", "_law_told_here", "_law_k"] ["_law_state", "_law_items"] (defScope s_order) := ⟨rfl, rfl, rfl, by decide +kernel, rfl, by decide +kernel, by decide +kernel⟩
theorem has_order (T : Txt K C mg) (h_draw : Has P w K mg base "_law_draw" 1 ["_law_state", "_law_size"] S_draw (fun _ => True)) {f : Addr} {fd : FuncData} (F : Fun K "_law_order" "_law_order" s_order f fd) (m : mg "_law_order" = some (.ref f)) (b : Binds K fd ["_law_state", "_law_items"] []) (kb : (fun _ => True) fd) :
    Has P w K mg base "_law_order" 2 ["_law_state", "_law_items"] S_order24 (fun _ => True) := by
  refine ⟨f, fd, m, F.kp, b, kb, fun_deep (T := t_order) (k := 1) F sc_order ?_ (fun cdv A outer s H E hr => ?_) rd_order24⟩
  · intro ds μ Q E h; first | (obtain ⟨rfl, _⟩ := h; rfl; done) | (obtain ⟨_, rfl, _⟩ := h; rfl; done) | (obtain ⟨_, _, rfl, _⟩ := h; rfl; done) | (obtain ⟨_, _, _, rfl, _⟩ := h; rfl; done) | (obtain ⟨_, _, _, _, rfl, _⟩ := h; rfl; done) | (obtain ⟨_, _, _, _, _, rfl, _⟩ := h; rfl; done) | (obtain ⟨_, _, _, _, _, _, rfl, _⟩ := h; rfl; done) | (obtain ⟨_, _, _, _, _, _, _, rfl, _⟩ := h; rfl; done) | (obtain ⟨_, _, _, _, _, _, _, _, rfl, _⟩ := h; rfl; done) | (obtain ⟨_, _, _, _, _, _, _, _, _, rfl, _⟩ := h; rfl; done) | (rcases h with ⟨_, rfl | rfl, _⟩ <;> rfl) | (rcases h with ⟨_, _, rfl | rfl, _⟩ <;> rfl) | (rcases h with h | h <;> first | (obtain ⟨rfl, _⟩ := h; rfl; done) | (obtain ⟨_, rfl, _⟩ := h; rfl; done) | (obtain ⟨_, _, rfl, _⟩ := h; rfl; done) | (obtain ⟨_, _, _, rfl, _⟩ := h; rfl; done) | (obtain ⟨_, _, _, _, rfl, _⟩ := h; rfl; done) | (obtain ⟨_, _, _, _, _, rfl, _⟩ := h; rfl; done) | (obtain ⟨_, _, _, _, _, _, rfl, _⟩ := h; rfl; done) | (obtain ⟨_, _, _, _, _, _, _, rfl, _⟩ := h; rfl; done) | (obtain ⟨_, _, _, _, _, _, _, _, rfl, _⟩ := h; rfl; done) | (obtain ⟨_, _, _, _, _, _, _, _, _, rfl, _⟩ := h; rfl; done) | (rcases h with ⟨_, rfl | rfl, _⟩ <;> rfl))
  · have tk := takes_of (X := cxOf (L2.CX P w) P w K mg base ["_law_state", "_law_items", "_law_left", "_law_told_here", "_law_k"] "_law_order" (defScope s_order) f cdv A outer s H E) rfl rfl rfl rfl
    have hp := passes_of (X := cxOf (L2.CX P w) P w K mg base ["_law_state", "_law_items", "_law_left", "_law_told_here", "_law_k"] "_law_order" (defScope s_order) f cdv A outer s H E) rfl
    exact dss_cons (ds_set (i := 2) (de_list false rfl T.m_list (de_var (pv 1))) sc_order.nd)
      (dss_cons (ds_set (i := 3) (de_lstM (da_nil)) sc_order.nd)
      (dss_cons (ds_for hp rfl (di_range1 rfl T.m_range (de_len rfl T.m_len (de_var (pv 2)))) (dg_name (pg_name (i := 4) sc_order.nd rfl (by first | exact Or.inl rfl | exact Or.inr rfl))) (dss_one (ds_drop (de_append (de_var (pv 3)) (de_popAt (de_var (pv 2)) (de_fnH h_draw (hr.mono (by decide)) rfl tk (da_cons (de_var (pv 0)) (da_cons (de_len rfl T.m_len (de_var (pv 2))) (da_nil)))))))))
      (dss_one (ds_ret (de_var (pv 3))))))
theorem sc_l_good24 : FnScope ["_law_word", "_law_letters", "_law_sign"] ["_law_word"] (defScope s_l_good24) := ⟨rfl, rfl, rfl, by decide +kernel, rfl, by decide +kernel, by decide +kernel⟩
theorem has_l_good24 (T : Txt K C mg)  {f : Addr} {fd : FuncData} (F : Fun K "_law_good" "_law_good" s_l_good24 f fd) (m : mg "_law_good" = some (.ref f)) (b : Binds K fd ["_law_word"] []) (kb : (fun _ => True) fd) :
    Has P w K mg base "_law_good" 1 ["_law_word"] S_l_good24 (fun _ => True) := by
  refine ⟨f, fd, m, F.kp, b, kb, fun_deep (T := t_l_good24) (k := 0) F sc_l_good24 ?_ (fun cdv A outer s H E hr => ?_) rd_l_good24⟩
  · intro ds μ Q E h; first | (obtain ⟨rfl, _⟩ := h; rfl; done) | (obtain ⟨_, rfl, _⟩ := h; rfl; done) | (obtain ⟨_, _, rfl, _⟩ := h; rfl; done) | (obtain ⟨_, _, _, rfl, _⟩ := h; rfl; done) | (obtain ⟨_, _, _, _, rfl, _⟩ := h; rfl; done) | (obtain ⟨_, _, _, _, _, rfl, _⟩ := h; rfl; done) | (obtain ⟨_, _, _, _, _, _, rfl, _⟩ := h; rfl; done) | (obtain ⟨_, _, _, _, _, _, _, rfl, _⟩ := h; rfl; done) | (obtain ⟨_, _, _, _, _, _, _, _, rfl, _⟩ := h; rfl; done) | (obtain ⟨_, _, _, _, _, _, _, _, _, rfl, _⟩ := h; rfl; done) | (rcases h with ⟨_, rfl | rfl, _⟩ <;> rfl) | (rcases h with ⟨_, _, rfl | rfl, _⟩ <;> rfl) | (rcases h with h | h <;> first | (obtain ⟨rfl, _⟩ := h; rfl; done) | (obtain ⟨_, rfl, _⟩ := h; rfl; done) | (obtain ⟨_, _, rfl, _⟩ := h; rfl; done) | (obtain ⟨_, _, _, rfl, _⟩ := h; rfl; done) | (obtain ⟨_, _, _, _, rfl, _⟩ := h; rfl; done) | (obtain ⟨_, _, _, _, _, rfl, _⟩ := h; rfl; done) | (obtain ⟨_, _, _, _, _, _, rfl, _⟩ := h; rfl; done) | (obtain ⟨_, _, _, _, _, _, _, rfl, _⟩ := h; rfl; done) | (obtain ⟨_, _, _, _, _, _, _, _, rfl, _⟩ := h; rfl; done) | (obtain ⟨_, _, _, _, _, _, _, _, _, rfl, _⟩ := h; rfl; done) | (rcases h with ⟨_, rfl | rfl, _⟩ <;> rfl))
  · have tk := takes_of (X := cxOf (L2.CX P w) P w K mg base ["_law_word", "_law_letters", "_law_sign"] "_law_good" (defScope s_l_good24) f cdv A outer s H E) rfl rfl rfl rfl
    have hp := passes_of (X := cxOf (L2.CX P w) P w K mg base ["_law_word", "_law_letters", "_law_sign"] "_law_good" (defScope s_l_good24) f cdv A outer s H E) rfl
    exact dss_cons (ds_set (i := 1) (de_str pe_str) sc_l_good24.nd)
      (dss_cons (ds_if (PW.pt (pw_or' (dt_lt (de_len rfl T.m_len (de_var (pv 0))) (de_int pe_int)) (pw_or' (dt_gt (de_len rfl T.m_len (de_var (pv 0))) (de_int pe_int)) (pw_or1 (dt_notin (de_sub_ (de_var (pv 0)) (de_int pe_int)) (de_var (pv 1))))))) (dss_one (ds_ret (de_bl pe_bl))) (dss_nil))
      (dss_one (ds_ret (de_eq hr.units (de_lc (fz := true) (own := [("_law_sign", 2)]) rfl sc_l_good24.nd (di_any (de_var (pv 0))) (blkOk_by (N := ["_law_word", "_law_letters", "_law_sign"]) (sc := defScope s_l_good24) (own := [("_law_sign", 2)]) (by decide +kernel)) (ct_name (by decide)) (fun _ _ _ _ _ => pg_name (i := 2) sc_l_good24.nd rfl (by first | exact Or.inl rfl | exact Or.inr rfl)) (fun _ _ _ _ _ => dts_one (dt_notin (de_var (pv 2)) (de_add (de_var (pv 1)) (de_str pe_str)))) (fun _ _ _ _ _ => de_var (pv 2))) (de_lst (da_nil))))))
theorem sc_l_odd3 : FnScope ["_law_state"] ["_law_state"] (defScope s_l_odd3) := ⟨rfl, rfl, rfl, by decide +kernel, rfl, by decide +kernel, by decide +kernel⟩
theorem has_l_odd3 (T : Txt K C mg) (h_draw : Has P w K mg base "_law_draw" 1 ["_law_state", "_law_size"] S_draw (fun _ => True)) {f : Addr} {fd : FuncData} (F : Fun K "_law_odd" "_law_odd" s_l_odd3 f fd) (m : mg "_law_odd" = some (.ref f)) (b : Binds K fd ["_law_state"] []) (kb : (fun _ => True) fd) :
    Has P w K mg base "_law_odd" 2 ["_law_state"] S_l_odd3 (fun _ => True) := by
  refine ⟨f, fd, m, F.kp, b, kb, fun_deep (T := t_l_odd3) (k := 1) F sc_l_odd3 ?_ (fun cdv A outer s H E hr => ?_) rd_l_odd3⟩
  · intro ds μ Q E h; first | (obtain ⟨rfl, _⟩ := h; rfl; done) | (obtain ⟨_, rfl, _⟩ := h; rfl; done) | (obtain ⟨_, _, rfl, _⟩ := h; rfl; done) | (obtain ⟨_, _, _, rfl, _⟩ := h; rfl; done) | (obtain ⟨_, _, _, _, rfl, _⟩ := h; rfl; done) | (obtain ⟨_, _, _, _, _, rfl, _⟩ := h; rfl; done) | (obtain ⟨_, _, _, _, _, _, rfl, _⟩ := h; rfl; done) | (obtain ⟨_, _, _, _, _, _, _, rfl, _⟩ := h; rfl; done) | (obtain ⟨_, _, _, _, _, _, _, _, rfl, _⟩ := h; rfl; done) | (obtain ⟨_, _, _, _, _, _, _, _, _, rfl, _⟩ := h; rfl; done) | (rcases h with ⟨_, rfl | rfl, _⟩ <;> rfl) | (rcases h with ⟨_, _, rfl | rfl, _⟩ <;> rfl) | (rcases h with h | h <;> first | (obtain ⟨rfl, _⟩ := h; rfl; done) | (obtain ⟨_, rfl, _⟩ := h; rfl; done) | (obtain ⟨_, _, rfl, _⟩ := h; rfl; done) | (obtain ⟨_, _, _, rfl, _⟩ := h; rfl; done) | (obtain ⟨_, _, _, _, rfl, _⟩ := h; rfl; done) | (obtain ⟨_, _, _, _, _, rfl, _⟩ := h; rfl; done) | (obtain ⟨_, _, _, _, _, _, rfl, _⟩ := h; rfl; done) | (obtain ⟨_, _, _, _, _, _, _, rfl, _⟩ := h; rfl; done) | (obtain ⟨_, _, _, _, _, _, _, _, rfl, _⟩ := h; rfl; done) | (obtain ⟨_, _, _, _, _, _, _, _, _, rfl, _⟩ := h; rfl; done) | (rcases h with ⟨_, rfl | rfl, _⟩ <;> rfl))
  · have tk := takes_of (X := cxOf (L2.CX P w) P w K mg base ["_law_state"] "_law_odd" (defScope s_l_odd3) f cdv A outer s H E) rfl rfl rfl rfl
    have hp := passes_of (X := cxOf (L2.CX P w) P w K mg base ["_law_state"] "_law_odd" (defScope s_l_odd3) f cdv A outer s H E) rfl
    exact dss_one (ds_ret (de_sub_ (de_lst (da_cons (de_bl pe_bl) (da_cons (de_non pe_non) (da_cons (de_str pe_str) (da_cons (de_tup (da_nil)) (da_cons (de_bl pe_bl) (da_cons (de_lst (da_cons (de_int pe_int) (da_nil))) (da_cons (de_str pe_str) (da_nil))))))))) (de_fnH h_draw (hr.mono (by decide)) rfl tk (da_cons (de_var (pv 0)) (da_cons (de_int pe_int) (da_nil))))))
theorem sc_l_made3 : FnScope ["_law_given", "_law_wishes", "e"] ["_law_given"] (defScope s_l_made3) := ⟨rfl, rfl, rfl, by decide +kernel, rfl, by decide +kernel, by decide +kernel⟩
theorem has_l_made3 (T : Txt K C mg) (h_W_initE : HasIk P w K mg base C.W "Wishes" 4 ["self", "amounts"] (S_W_initE C) (kb_W_initE K)) (h_W_amountsC : HasM P w K mg base C.W "amounts" 1 ["self"] (S_W_amountsC C)) (h_W_outcomes : HasP P w K mg base C.W "outcomes" 1 ["self"] (S_W_outcomes C)) {f : Addr} {fd : FuncData} (F : Fun K "_law_made" "_law_made" s_l_made3 f fd) (m : mg "_law_made" = some (.ref f)) (b : Binds K fd ["_law_given"] []) (kb : (fun _ => True) fd) :
    Has P w K mg base "_law_made" 6 ["_law_given"] (S_l_made3 C) (fun _ => True) := by
  refine ⟨f, fd, m, F.kp, b, kb, fun_deep (T := (t_l_made3 C)) (k := 5) F sc_l_made3 ?_ (fun cdv A outer s H E hr => ?_) (rd_l_made3 (C := C))⟩
  · intro ds μ Q E h; first | (obtain ⟨rfl, _⟩ := h; rfl; done) | (obtain ⟨_, rfl, _⟩ := h; rfl; done) | (obtain ⟨_, _, rfl, _⟩ := h; rfl; done) | (obtain ⟨_, _, _, rfl, _⟩ := h; rfl; done) | (obtain ⟨_, _, _, _, rfl, _⟩ := h; rfl; done) | (obtain ⟨_, _, _, _, _, rfl, _⟩ := h; rfl; done) | (obtain ⟨_, _, _, _, _, _, rfl, _⟩ := h; rfl; done) | (obtain ⟨_, _, _, _, _, _, _, rfl, _⟩ := h; rfl; done) | (obtain ⟨_, _, _, _, _, _, _, _, rfl, _⟩ := h; rfl; done) | (obtain ⟨_, _, _, _, _, _, _, _, _, rfl, _⟩ := h; rfl; done) | (rcases h with ⟨_, rfl | rfl, _⟩ <;> rfl) | (rcases h with ⟨_, _, rfl | rfl, _⟩ <;> rfl) | (rcases h with h | h <;> first | (obtain ⟨rfl, _⟩ := h; rfl; done) | (obtain ⟨_, rfl, _⟩ := h; rfl; done) | (obtain ⟨_, _, rfl, _⟩ := h; rfl; done) | (obtain ⟨_, _, _, rfl, _⟩ := h; rfl; done) | (obtain ⟨_, _, _, _, rfl, _⟩ := h; rfl; done) | (obtain ⟨_, _, _, _, _, rfl, _⟩ := h; rfl; done) | (obtain ⟨_, _, _, _, _, _, rfl, _⟩ := h; rfl; done) | (obtain ⟨_, _, _, _, _, _, _, rfl, _⟩ := h; rfl; done) | (obtain ⟨_, _, _, _, _, _, _, _, rfl, _⟩ := h; rfl; done) | (obtain ⟨_, _, _, _, _, _, _, _, _, rfl, _⟩ := h; rfl; done) | (rcases h with ⟨_, rfl | rfl, _⟩ <;> rfl))
  · have tk := takes_of (X := cxOf (L2.CX P w) P w K mg base ["_law_given", "_law_wishes", "e"] "_law_made" (defScope s_l_made3) f cdv A outer s H E) rfl rfl rfl rfl
    have hp := passes_of (X := cxOf (L2.CX P w) P w K mg base ["_law_given", "_law_wishes", "e"] "_law_made" (defScope s_l_made3) f cdv A outer s H E) rfl
    exact dss_one (ds_try T.em rfl rfl sc_l_made3.nd tk (fun W pn xe tk hp => dss_cons (ds_set (i := 1) (de_makeMH h_W_initE.i (hr.mono (by decide)) rfl tk (da_cons (de_var (pv 0)) (da_nil))) sc_l_made3.nd)
      (dss_one (ds_ret (de_lst (da_cons (de_str pe_str) (da_cons (de_propH T.c_Wishes h_W_outcomes (hr.mono (by decide)) (de_var (pv 1))) (da_cons (de_meth0H T.c_Wishes h_W_amountsC (hr.mono (by decide)) tk (de_var (pv 1))) (da_nil)))))))) (dms_named (i := 2) rfl T.g_BadCount (fun a oe dd l pn hz hv => dss_one (ds_ret (de_lst (da_cons (de_str pe_str) (da_cons (de_xf T.x_BadCount_count hz hv (de_var (pv 2))) (da_nil)))))) (dms_named (i := 2) rfl T.g_BadName (fun a oe dd l pn hz hv => dss_one (ds_ret (de_lst (da_cons (de_str pe_str) (da_cons (de_xf T.x_BadName_name hz hv (de_var (pv 2))) (da_nil)))))) (dms_named (i := 2) rfl T.g_BadWish (fun a oe dd l pn hz hv => dss_one (ds_ret (de_lst (da_cons (de_str pe_str) (da_cons (de_xf T.x_BadWish_value hz hv (de_var (pv 2))) (da_cons (de_isi .bool (by decide) rfl T.m_isinstance (de_xf T.x_BadWish_value hz hv (de_var (pv 2))) rfl T.m_bool (by decide +kernel)) (da_nil))))))) dms_nil))))
theorem sc_l_due3 : FnScope ["_law_given", "_law_labels", "_law_label"] ["_law_given"] (defScope s_l_due3) := ⟨rfl, rfl, rfl, by decide +kernel, rfl, by decide +kernel, by decide +kernel⟩
theorem has_l_due3 (T : Txt K C mg) (h_l_good24 : Has P w K mg base "_law_good" 1 ["_law_word"] S_l_good24 (fun _ => True)) {f : Addr} {fd : FuncData} (F : Fun K "_law_due" "_law_due" s_l_due3 f fd) (m : mg "_law_due" = some (.ref f)) (b : Binds K fd ["_law_given"] []) (kb : (fun _ => True) fd) :
    Has P w K mg base "_law_due" 2 ["_law_given"] S_l_due3 (fun _ => True) := by
  refine ⟨f, fd, m, F.kp, b, kb, fun_deep (T := t_l_due3) (k := 1) F sc_l_due3 ?_ (fun cdv A outer s H E hr => ?_) rd_l_due3⟩
  · intro ds μ Q E h; first | (obtain ⟨rfl, _⟩ := h; rfl; done) | (obtain ⟨_, rfl, _⟩ := h; rfl; done) | (obtain ⟨_, _, rfl, _⟩ := h; rfl; done) | (obtain ⟨_, _, _, rfl, _⟩ := h; rfl; done) | (obtain ⟨_, _, _, _, rfl, _⟩ := h; rfl; done) | (obtain ⟨_, _, _, _, _, rfl, _⟩ := h; rfl; done) | (obtain ⟨_, _, _, _, _, _, rfl, _⟩ := h; rfl; done) | (obtain ⟨_, _, _, _, _, _, _, rfl, _⟩ := h; rfl; done) | (obtain ⟨_, _, _, _, _, _, _, _, rfl, _⟩ := h; rfl; done) | (obtain ⟨_, _, _, _, _, _, _, _, _, rfl, _⟩ := h; rfl; done) | (rcases h with ⟨_, rfl | rfl, _⟩ <;> rfl) | (rcases h with ⟨_, _, rfl | rfl, _⟩ <;> rfl) | (rcases h with h | h <;> first | (obtain ⟨rfl, _⟩ := h; rfl; done) | (obtain ⟨_, rfl, _⟩ := h; rfl; done) | (obtain ⟨_, _, rfl, _⟩ := h; rfl; done) | (obtain ⟨_, _, _, rfl, _⟩ := h; rfl; done) | (obtain ⟨_, _, _, _, rfl, _⟩ := h; rfl; done) | (obtain ⟨_, _, _, _, _, rfl, _⟩ := h; rfl; done) | (obtain ⟨_, _, _, _, _, _, rfl, _⟩ := h; rfl; done) | (obtain ⟨_, _, _, _, _, _, _, rfl, _⟩ := h; rfl; done) | (obtain ⟨_, _, _, _, _, _, _, _, rfl, _⟩ := h; rfl; done) | (obtain ⟨_, _, _, _, _, _, _, _, _, rfl, _⟩ := h; rfl; done) | (rcases h with ⟨_, rfl | rfl, _⟩ <;> rfl))
  · have tk := takes_of (X := cxOf (L2.CX P w) P w K mg base ["_law_given", "_law_labels", "_law_label"] "_law_due" (defScope s_l_due3) f cdv A outer s H E) rfl rfl rfl rfl
    have hp := passes_of (X := cxOf (L2.CX P w) P w K mg base ["_law_given", "_law_labels", "_law_label"] "_law_due" (defScope s_l_due3) f cdv A outer s H E) rfl
    exact dss_cons (ds_set (i := 1) (de_sortedD true rfl rfl T.m_sorted (de_var (pv 0))) sc_l_due3.nd)
      (dss_cons (ds_if (PW.pt (pw_or' (dt_lt (de_len rfl T.m_len (de_var (pv 1))) (de_int pe_int)) (pw_or1 (dt_gt (de_len rfl T.m_len (de_var (pv 1))) (de_int pe_int))))) (dss_one (ds_ret (de_lst (da_cons (de_str pe_str) (da_cons (de_len rfl T.m_len (de_var (pv 1))) (da_nil)))))) (dss_nil))
      (dss_cons (ds_for hp rfl (di_any (de_var (pv 1))) (dg_name (pg_name (i := 2) sc_l_due3.nd rfl (by first | exact Or.inl rfl | exact Or.inr rfl))) (dss_one (ds_if (dt_not (dt_val (de_fnH h_l_good24 (hr.mono (by decide)) rfl tk (da_cons (de_var (pv 2)) (da_nil))))) (dss_one (ds_ret (de_lst (da_cons (de_str pe_str) (da_cons (de_var (pv 2)) (da_nil)))))) (dss_nil))))
      (dss_cons (ds_for hp rfl (di_any (de_var (pv 1))) (dg_name (pg_name (i := 2) sc_l_due3.nd rfl (by first | exact Or.inl rfl | exact Or.inr rfl))) (dss_one (ds_if (PW.pt (pw_or' (dt_not (dt_val (de_isi .int (by decide) rfl T.m_isinstance (de_dget (hu_of hr) (de_var (pv 0)) (de_var (pv 2))) rfl T.m_int (by decide +kernel)))) (pw_or1 (dt_val (de_isi .bool (by decide) rfl T.m_isinstance (de_dget (hu_of hr) (de_var (pv 0)) (de_var (pv 2))) rfl T.m_bool (by decide +kernel)))))) (dss_one (ds_ret (de_lst (da_cons (de_str pe_str) (da_cons (de_dget (hu_of hr) (de_var (pv 0)) (de_var (pv 2))) (da_cons (de_isi .bool (by decide) rfl T.m_isinstance (de_dget (hu_of hr) (de_var (pv 0)) (de_var (pv 2))) rfl T.m_bool (by decide +kernel)) (da_nil))))))) (dss_nil))))
      (dss_one (ds_ret (de_lst (da_cons (de_str pe_str) (da_cons (de_tuple rfl T.m_tuple (de_var (pv 1))) (da_cons (de_var (pv 0)) (da_nil))))))))))
theorem sc_l_told3 : FnScope ["_law_wishes", "_law_plan", "_law_left", "_law_right_here", "e"] ["_law_wishes", "_law_plan", "_law_left", "_law_right_here"] (defScope s_l_told3) := ⟨rfl, rfl, rfl, by decide +kernel, rfl, by decide +kernel, by decide +kernel⟩
theorem has_l_told3 (T : Txt K C mg) (h_W_item : HasX P w K mg base C.W 3 ["self", "name"] (S_W_item C)) (h_W_best : HasMk P w K mg base C.W "best" 3 ["self", "names"] (S_W_best C) (kb_W_best K)) (h_W_prefersX : HasMk P w K mg base C.W "prefers" 3 ["self", "one", "other"] (S_W_prefersX C) (kb_W_prefersX K)) {f : Addr} {fd : FuncData} (F : Fun K "_law_told" "_law_told" s_l_told3 f fd) (m : mg "_law_told" = some (.ref f)) (b : Binds K fd ["_law_wishes", "_law_plan", "_law_left", "_law_right_here"] []) (kb : (fun _ => True) fd) :
    Has P w K mg base "_law_told" 5 ["_law_wishes", "_law_plan", "_law_left", "_law_right_here"] (S_l_told3 C) (fun _ => True) := by
  refine ⟨f, fd, m, F.kp, b, kb, fun_deep (T := (t_l_told3 C)) (k := 4) F sc_l_told3 ?_ (fun cdv A outer s H E hr => ?_) (rd_l_told3 (C := C))⟩
  · intro ds μ Q E h; first | (obtain ⟨rfl, _⟩ := h; rfl; done) | (obtain ⟨_, rfl, _⟩ := h; rfl; done) | (obtain ⟨_, _, rfl, _⟩ := h; rfl; done) | (obtain ⟨_, _, _, rfl, _⟩ := h; rfl; done) | (obtain ⟨_, _, _, _, rfl, _⟩ := h; rfl; done) | (obtain ⟨_, _, _, _, _, rfl, _⟩ := h; rfl; done) | (obtain ⟨_, _, _, _, _, _, rfl, _⟩ := h; rfl; done) | (obtain ⟨_, _, _, _, _, _, _, rfl, _⟩ := h; rfl; done) | (obtain ⟨_, _, _, _, _, _, _, _, rfl, _⟩ := h; rfl; done) | (obtain ⟨_, _, _, _, _, _, _, _, _, rfl, _⟩ := h; rfl; done) | (rcases h with ⟨_, rfl | rfl, _⟩ <;> rfl) | (rcases h with ⟨_, _, rfl | rfl, _⟩ <;> rfl) | (rcases h with h | h <;> first | (obtain ⟨rfl, _⟩ := h; rfl; done) | (obtain ⟨_, rfl, _⟩ := h; rfl; done) | (obtain ⟨_, _, rfl, _⟩ := h; rfl; done) | (obtain ⟨_, _, _, rfl, _⟩ := h; rfl; done) | (obtain ⟨_, _, _, _, rfl, _⟩ := h; rfl; done) | (obtain ⟨_, _, _, _, _, rfl, _⟩ := h; rfl; done) | (obtain ⟨_, _, _, _, _, _, rfl, _⟩ := h; rfl; done) | (obtain ⟨_, _, _, _, _, _, _, rfl, _⟩ := h; rfl; done) | (obtain ⟨_, _, _, _, _, _, _, _, rfl, _⟩ := h; rfl; done) | (obtain ⟨_, _, _, _, _, _, _, _, _, rfl, _⟩ := h; rfl; done) | (rcases h with ⟨_, rfl | rfl, _⟩ <;> rfl))
  · have tk := takes_of (X := cxOf (L2.CX P w) P w K mg base ["_law_wishes", "_law_plan", "_law_left", "_law_right_here", "e"] "_law_told" (defScope s_l_told3) f cdv A outer s H E) rfl rfl rfl rfl
    have hp := passes_of (X := cxOf (L2.CX P w) P w K mg base ["_law_wishes", "_law_plan", "_law_left", "_law_right_here", "e"] "_law_told" (defScope s_l_told3) f cdv A outer s H E) rfl
    exact dss_one (ds_try T.em rfl rfl sc_l_told3.nd tk (fun W pn xe tk hp => dss_cons (ds_if (dt_eq hr.units (de_var (pv 1)) (de_int pe_int)) (dss_one (ds_ret (de_lst (da_cons (de_str pe_str) (da_cons (de_ownixH h_W_item (hr.mono (by decide)) tk (de_var (pv 0)) (de_var (pv 2))) (da_nil)))))) (dss_nil))
      (dss_cons (ds_if (dt_eq hr.units (de_var (pv 1)) (de_int pe_int)) (dss_one (ds_ret (de_lst (da_cons (de_str pe_str) (da_cons (de_methH T.c_Wishes h_W_prefersX.i (hr.mono (by decide)) tk (de_var (pv 0)) (da_cons (de_var (pv 2)) (da_cons (de_var (pv 3)) (da_nil)))) (da_nil)))))) (dss_nil))
      (dss_one (ds_ret (de_lst (da_cons (de_str pe_str) (da_cons (de_methH T.c_Wishes h_W_best.i (hr.mono (by decide)) tk (de_var (pv 0)) (da_cons (de_var (pv 2)) (da_nil))) (da_nil)))))))) (dms_named (i := 4) rfl T.g_UnknownName (fun a oe dd l pn hz hv => dss_one (ds_ret (de_lst (da_cons (de_str pe_str) (da_cons (de_xf T.x_UnknownName_name hz hv (de_var (pv 4))) (da_nil)))))) (dms_named (i := 4) rfl T.g_BadCount (fun a oe dd l pn hz hv => dss_one (ds_ret (de_lst (da_cons (de_str pe_str) (da_cons (de_xf T.x_BadCount_count hz hv (de_var (pv 4))) (da_nil)))))) dms_nil)))
theorem sc_l_tdue3 : FnScope ["_law_given", "_law_plan", "_law_left", "_law_right_here", "_law_asked", "_law_label", "_law_most"] ["_law_given", "_law_plan", "_law_left", "_law_right_here"] (defScope s_l_tdue3) := ⟨rfl, rfl, rfl, by decide +kernel, rfl, by decide +kernel, by decide +kernel⟩
theorem has_l_tdue3 (T : Txt K C mg)  {f : Addr} {fd : FuncData} (F : Fun K "_law_told_due" "_law_told_due" s_l_tdue3 f fd) (m : mg "_law_told_due" = some (.ref f)) (b : Binds K fd ["_law_given", "_law_plan", "_law_left", "_law_right_here"] []) (kb : (fun _ => True) fd) :
    Has P w K mg base "_law_told_due" 1 ["_law_given", "_law_plan", "_law_left", "_law_right_here"] S_l_tdue3 (fun _ => True) := by
  refine ⟨f, fd, m, F.kp, b, kb, fun_deep (T := t_l_tdue3) (k := 0) F sc_l_tdue3 ?_ (fun cdv A outer s H E hr => ?_) rd_l_tdue3⟩
  · intro ds μ Q E h; first | (obtain ⟨rfl, _⟩ := h; rfl; done) | (obtain ⟨_, rfl, _⟩ := h; rfl; done) | (obtain ⟨_, _, rfl, _⟩ := h; rfl; done) | (obtain ⟨_, _, _, rfl, _⟩ := h; rfl; done) | (obtain ⟨_, _, _, _, rfl, _⟩ := h; rfl; done) | (obtain ⟨_, _, _, _, _, rfl, _⟩ := h; rfl; done) | (obtain ⟨_, _, _, _, _, _, rfl, _⟩ := h; rfl; done) | (obtain ⟨_, _, _, _, _, _, _, rfl, _⟩ := h; rfl; done) | (obtain ⟨_, _, _, _, _, _, _, _, rfl, _⟩ := h; rfl; done) | (obtain ⟨_, _, _, _, _, _, _, _, _, rfl, _⟩ := h; rfl; done) | (rcases h with ⟨_, rfl | rfl, _⟩ <;> rfl) | (rcases h with ⟨_, _, rfl | rfl, _⟩ <;> rfl) | (rcases h with h | h <;> first | (obtain ⟨rfl, _⟩ := h; rfl; done) | (obtain ⟨_, rfl, _⟩ := h; rfl; done) | (obtain ⟨_, _, rfl, _⟩ := h; rfl; done) | (obtain ⟨_, _, _, rfl, _⟩ := h; rfl; done) | (obtain ⟨_, _, _, _, rfl, _⟩ := h; rfl; done) | (obtain ⟨_, _, _, _, _, rfl, _⟩ := h; rfl; done) | (obtain ⟨_, _, _, _, _, _, rfl, _⟩ := h; rfl; done) | (obtain ⟨_, _, _, _, _, _, _, rfl, _⟩ := h; rfl; done) | (obtain ⟨_, _, _, _, _, _, _, _, rfl, _⟩ := h; rfl; done) | (obtain ⟨_, _, _, _, _, _, _, _, _, rfl, _⟩ := h; rfl; done) | (rcases h with ⟨_, rfl | rfl, _⟩ <;> rfl))
  · have tk := takes_of (X := cxOf (L2.CX P w) P w K mg base ["_law_given", "_law_plan", "_law_left", "_law_right_here", "_law_asked", "_law_label", "_law_most"] "_law_told_due" (defScope s_l_tdue3) f cdv A outer s H E) rfl rfl rfl rfl
    have hp := passes_of (X := cxOf (L2.CX P w) P w K mg base ["_law_given", "_law_plan", "_law_left", "_law_right_here", "_law_asked", "_law_label", "_law_most"] "_law_told_due" (defScope s_l_tdue3) f cdv A outer s H E) rfl
    exact dss_cons (ds_if (PW.pt (pw_and' (dt_eq hr.units (de_var (pv 1)) (de_int pe_int)) (pw_and1 (dt_eq hr.units (de_len rfl T.m_len (de_var (pv 2))) (de_int pe_int))))) (dss_one (ds_ret (de_lst (da_cons (de_str pe_str) (da_cons (de_int pe_int) (da_nil)))))) (dss_nil))
      (dss_cons (ds_set (i := 4) (de_sub_ (de_lst (da_cons (de_lst (da_cons (de_var (pv 2)) (da_nil))) (da_cons (de_lst (da_cons (de_var (pv 2)) (da_cons (de_var (pv 3)) (da_nil)))) (da_cons (de_var (pv 2)) (da_nil))))) (de_var (pv 1))) sc_l_tdue3.nd)
      (dss_cons (ds_for hp rfl (di_any (de_var (pv 4))) (dg_name (pg_name (i := 5) sc_l_tdue3.nd rfl (by first | exact Or.inl rfl | exact Or.inr rfl))) (dss_one (ds_if (dt_dnotin (hu_of hr) (de_var (pv 5)) (de_var (pv 0))) (dss_one (ds_ret (de_lst (da_cons (de_str pe_str) (da_cons (de_var (pv 5)) (da_nil)))))) (dss_nil))))
      (dss_cons (ds_if (dt_eq hr.units (de_var (pv 1)) (de_int pe_int)) (dss_one (ds_ret (de_lst (da_cons (de_str pe_str) (da_cons (de_dget (hu_of hr) (de_var (pv 0)) (de_var (pv 2))) (da_nil)))))) (dss_nil))
      (dss_cons (ds_if (dt_eq hr.units (de_var (pv 1)) (de_int pe_int)) (dss_one (ds_ret (de_lst (da_cons (de_str pe_str) (da_cons (de_gt (de_dget (hu_of hr) (de_var (pv 0)) (de_var (pv 2))) (de_dget (hu_of hr) (de_var (pv 0)) (de_var (pv 3)))) (da_nil)))))) (dss_nil))
      (dss_cons (ds_set (i := 6) (de_maxL rfl rfl T.m_max (de_lc (fz := true) (own := [("_law_label", 5)]) rfl sc_l_tdue3.nd (di_any (de_var (pv 2))) (blkOk_by (N := ["_law_given", "_law_plan", "_law_left", "_law_right_here", "_law_asked", "_law_label", "_law_most"]) (sc := defScope s_l_tdue3) (own := [("_law_label", 5)]) (by decide +kernel)) (ct_name (by decide)) (fun _ _ _ _ _ => pg_name (i := 5) sc_l_tdue3.nd rfl (by first | exact Or.inl rfl | exact Or.inr rfl)) (fun _ _ _ _ _ => dts_nil) (fun _ _ _ _ _ => de_dget (hu_of hr) (de_var (pv 0)) (de_var (pv 5))))) sc_l_tdue3.nd)
      (dss_one (ds_ret (de_lst (da_cons (de_str pe_str) (da_cons (de_tuple rfl T.m_tuple (de_lc (fz := true) (own := [("_law_label", 5)]) rfl sc_l_tdue3.nd (di_any (de_sortedD true rfl rfl T.m_sorted (de_var (pv 0)))) (blkOk_by (N := ["_law_given", "_law_plan", "_law_left", "_law_right_here", "_law_asked", "_law_label", "_law_most"]) (sc := defScope s_l_tdue3) (own := [("_law_label", 5)]) (by decide +kernel)) (ct_name (by decide)) (fun _ _ _ _ _ => pg_name (i := 5) sc_l_tdue3.nd rfl (by first | exact Or.inl rfl | exact Or.inr rfl)) (fun _ _ _ _ _ => dts_one (PW.pt (pw_and' (dt_in (de_var (pv 5)) (de_var (pv 2))) (pw_and1 (dt_eq hr.units (de_dget (hu_of hr) (de_var (pv 0)) (de_var (pv 5))) (de_var (pv 6))))))) (fun _ _ _ _ _ => de_var (pv 5)))) (da_nil)))))))))))
theorem sc_l_ranks4 : FnScope ["_law_given", "_law_found", "_law_amount", "_law_label"] ["_law_given"] (defScope s_l_ranks4) := ⟨rfl, rfl, rfl, by decide +kernel, rfl, by decide +kernel, by decide +kernel⟩
theorem has_l_ranks4 (T : Txt K C mg)  {f : Addr} {fd : FuncData} (F : Fun K "_law_ranks" "_law_ranks" s_l_ranks4 f fd) (m : mg "_law_ranks" = some (.ref f)) (b : Binds K fd ["_law_given"] []) (kb : (fun _ => True) fd) :
    Has P w K mg base "_law_ranks" 1 ["_law_given"] S_l_ranks4 (fun _ => True) := by
  refine ⟨f, fd, m, F.kp, b, kb, fun_deep (T := t_l_ranks4) (k := 0) F sc_l_ranks4 ?_ (fun cdv A outer s H E hr => ?_) rd_l_ranks4⟩
  · intro ds μ Q E h; first | (obtain ⟨rfl, _⟩ := h; rfl; done) | (obtain ⟨_, rfl, _⟩ := h; rfl; done) | (obtain ⟨_, _, rfl, _⟩ := h; rfl; done) | (obtain ⟨_, _, _, rfl, _⟩ := h; rfl; done) | (obtain ⟨_, _, _, _, rfl, _⟩ := h; rfl; done) | (obtain ⟨_, _, _, _, _, rfl, _⟩ := h; rfl; done) | (obtain ⟨_, _, _, _, _, _, rfl, _⟩ := h; rfl; done) | (obtain ⟨_, _, _, _, _, _, _, rfl, _⟩ := h; rfl; done) | (obtain ⟨_, _, _, _, _, _, _, _, rfl, _⟩ := h; rfl; done) | (obtain ⟨_, _, _, _, _, _, _, _, _, rfl, _⟩ := h; rfl; done) | (rcases h with ⟨_, rfl | rfl, _⟩ <;> rfl) | (rcases h with ⟨_, _, rfl | rfl, _⟩ <;> rfl) | (rcases h with h | h <;> first | (obtain ⟨rfl, _⟩ := h; rfl; done) | (obtain ⟨_, rfl, _⟩ := h; rfl; done) | (obtain ⟨_, _, rfl, _⟩ := h; rfl; done) | (obtain ⟨_, _, _, rfl, _⟩ := h; rfl; done) | (obtain ⟨_, _, _, _, rfl, _⟩ := h; rfl; done) | (obtain ⟨_, _, _, _, _, rfl, _⟩ := h; rfl; done) | (obtain ⟨_, _, _, _, _, _, rfl, _⟩ := h; rfl; done) | (obtain ⟨_, _, _, _, _, _, _, rfl, _⟩ := h; rfl; done) | (obtain ⟨_, _, _, _, _, _, _, _, rfl, _⟩ := h; rfl; done) | (obtain ⟨_, _, _, _, _, _, _, _, _, rfl, _⟩ := h; rfl; done) | (rcases h with ⟨_, rfl | rfl, _⟩ <;> rfl))
  · have tk := takes_of (X := cxOf (L2.CX P w) P w K mg base ["_law_given", "_law_found", "_law_amount", "_law_label"] "_law_ranks" (defScope s_l_ranks4) f cdv A outer s H E) rfl rfl rfl rfl
    have hp := passes_of (X := cxOf (L2.CX P w) P w K mg base ["_law_given", "_law_found", "_law_amount", "_law_label"] "_law_ranks" (defScope s_l_ranks4) f cdv A outer s H E) rfl
    exact dss_cons (ds_set (i := 1) (de_lstM (da_nil)) sc_l_ranks4.nd)
      (dss_cons (ds_for hp rfl (di_any (de_revA true (de_sortSetN true rfl T.m_sorted rfl rfl T.m_set (de_lc (fz := true) (own := [("_law_label", 3)]) rfl sc_l_ranks4.nd (di_keys (de_var (pv 0))) (blkOk_by (N := ["_law_given", "_law_found", "_law_amount", "_law_label"]) (sc := defScope s_l_ranks4) (own := [("_law_label", 3)]) (by decide +kernel)) (ct_name (by decide)) (fun _ _ _ _ _ => pg_name (i := 3) sc_l_ranks4.nd rfl (by first | exact Or.inl rfl | exact Or.inr rfl)) (fun _ _ _ _ _ => dts_nil) (fun _ _ _ _ _ => de_dget (hu_of hr) (de_var (pv 0)) (de_var (pv 3))))))) (dg_name (pg_name (i := 2) sc_l_ranks4.nd rfl (by first | exact Or.inl rfl | exact Or.inr rfl))) (dss_one (ds_drop (de_append (de_var (pv 1)) (de_tuple rfl T.m_tuple (de_lc (fz := true) (own := [("_law_label", 3)]) rfl sc_l_ranks4.nd (di_any (de_sortedD true rfl rfl T.m_sorted (de_var (pv 0)))) (blkOk_by (N := ["_law_given", "_law_found", "_law_amount", "_law_label"]) (sc := defScope s_l_ranks4) (own := [("_law_label", 3)]) (by decide +kernel)) (ct_name (by decide)) (fun _ _ _ _ _ => pg_name (i := 3) sc_l_ranks4.nd rfl (by first | exact Or.inl rfl | exact Or.inr rfl)) (fun _ _ _ _ _ => dts_one (dt_eq hr.units (de_dget (hu_of hr) (de_var (pv 0)) (de_var (pv 3))) (de_var (pv 2)))) (fun _ _ _ _ _ => de_var (pv 3))))))))
      (dss_one (ds_ret (de_var (pv 1)))))
theorem sc_l_right3 : FnScope ["_law_state", "_law_wishes", "_law_given", "_law_menu", "_law_turn", "_law_left", "_law_right_here", "_law_labels", "_law_some", "_law_plan", "_law_first", "_law_ranks_here", "_law_k", "_law_label"] ["_law_state", "_law_wishes", "_law_given"] (defScope s_l_right3) := ⟨rfl, rfl, rfl, by decide +kernel, rfl, by decide +kernel, by decide +kernel⟩
theorem has_l_right3 (T : Txt K C mg) (h_W_ranks : HasM P w K mg base C.W "ranks" 4 ["self"] (S_W_ranks3 C)) (h_draw : Has P w K mg base "_law_draw" 1 ["_law_state", "_law_size"] S_draw (fun _ => True)) (h_order : Has P w K mg base "_law_order" 2 ["_law_state", "_law_items"] S_order24 (fun _ => True)) (h_l_ranks4 : Has P w K mg base "_law_ranks" 1 ["_law_given"] S_l_ranks4 (fun _ => True)) (h_l_told3 : Has P w K mg base "_law_told" 5 ["_law_wishes", "_law_plan", "_law_left", "_law_right_here"] (S_l_told3 C) (fun _ => True)) (h_l_tdue3 : Has P w K mg base "_law_told_due" 1 ["_law_given", "_law_plan", "_law_left", "_law_right_here"] S_l_tdue3 (fun _ => True)) {f : Addr} {fd : FuncData} (F : Fun K "_law_right" "_law_right" s_l_right3 f fd) (m : mg "_law_right" = some (.ref f)) (b : Binds K fd ["_law_state", "_law_wishes", "_law_given"] []) (kb : (fun _ => True) fd) :
    Has P w K mg base "_law_right" 6 ["_law_state", "_law_wishes", "_law_given"] (S_l_right3 C) (fun _ => True) := by
  refine ⟨f, fd, m, F.kp, b, kb, fun_deep (T := (t_l_right3 C)) (k := 5) F sc_l_right3 ?_ (fun cdv A outer s H E hr => ?_) (rd_l_right3 (C := C))⟩
  · intro ds μ Q E h; first | (obtain ⟨rfl, _⟩ := h; rfl; done) | (obtain ⟨_, rfl, _⟩ := h; rfl; done) | (obtain ⟨_, _, rfl, _⟩ := h; rfl; done) | (obtain ⟨_, _, _, rfl, _⟩ := h; rfl; done) | (obtain ⟨_, _, _, _, rfl, _⟩ := h; rfl; done) | (obtain ⟨_, _, _, _, _, rfl, _⟩ := h; rfl; done) | (obtain ⟨_, _, _, _, _, _, rfl, _⟩ := h; rfl; done) | (obtain ⟨_, _, _, _, _, _, _, rfl, _⟩ := h; rfl; done) | (obtain ⟨_, _, _, _, _, _, _, _, rfl, _⟩ := h; rfl; done) | (obtain ⟨_, _, _, _, _, _, _, _, _, rfl, _⟩ := h; rfl; done) | (rcases h with ⟨_, rfl | rfl, _⟩ <;> rfl) | (rcases h with ⟨_, _, rfl | rfl, _⟩ <;> rfl) | (rcases h with h | h <;> first | (obtain ⟨rfl, _⟩ := h; rfl; done) | (obtain ⟨_, rfl, _⟩ := h; rfl; done) | (obtain ⟨_, _, rfl, _⟩ := h; rfl; done) | (obtain ⟨_, _, _, rfl, _⟩ := h; rfl; done) | (obtain ⟨_, _, _, _, rfl, _⟩ := h; rfl; done) | (obtain ⟨_, _, _, _, _, rfl, _⟩ := h; rfl; done) | (obtain ⟨_, _, _, _, _, _, rfl, _⟩ := h; rfl; done) | (obtain ⟨_, _, _, _, _, _, _, rfl, _⟩ := h; rfl; done) | (obtain ⟨_, _, _, _, _, _, _, _, rfl, _⟩ := h; rfl; done) | (obtain ⟨_, _, _, _, _, _, _, _, _, rfl, _⟩ := h; rfl; done) | (rcases h with ⟨_, rfl | rfl, _⟩ <;> rfl))
  · have tk := takes_of (X := cxOf (L2.CX P w) P w K mg base ["_law_state", "_law_wishes", "_law_given", "_law_menu", "_law_turn", "_law_left", "_law_right_here", "_law_labels", "_law_some", "_law_plan", "_law_first", "_law_ranks_here", "_law_k", "_law_label"] "_law_right" (defScope s_l_right3) f cdv A outer s H E) rfl rfl rfl rfl
    have hp := passes_of (X := cxOf (L2.CX P w) P w K mg base ["_law_state", "_law_wishes", "_law_given", "_law_menu", "_law_turn", "_law_left", "_law_right_here", "_law_labels", "_law_some", "_law_plan", "_law_first", "_law_ranks_here", "_law_k", "_law_label"] "_law_right" (defScope s_l_right3) f cdv A outer s H E) rfl
    exact dss_cons (ds_set (i := 3) (de_add (de_sortedD true rfl rfl T.m_sorted (de_var (pv 2))) (de_lst (da_cons (de_str pe_str) (da_cons (de_str pe_str) (da_cons (de_add (de_sub_ (de_sortedD true rfl rfl T.m_sorted (de_var (pv 2))) (de_int pe_int)) (de_str pe_str)) (da_nil)))))) sc_l_right3.nd)
      (dss_cons (ds_for hp rfl (di_range1 rfl T.m_range (de_int pe_int)) (dg_name (pg_name (i := 4) sc_l_right3.nd rfl (by first | exact Or.inl rfl | exact Or.inr rfl))) (dss_cons (ds_set (i := 5) (de_sub_ (de_var (pv 3)) (de_fnH h_draw (hr.mono (by decide)) rfl tk (da_cons (de_var (pv 0)) (da_cons (de_len rfl T.m_len (de_var (pv 3))) (da_nil))))) sc_l_right3.nd)
      (dss_cons (ds_set (i := 6) (de_sub_ (de_var (pv 3)) (de_fnH h_draw (hr.mono (by decide)) rfl tk (da_cons (de_var (pv 0)) (da_cons (de_len rfl T.m_len (de_var (pv 3))) (da_nil))))) sc_l_right3.nd)
      (dss_cons (ds_setLc (i := 7) (fz := true) (own := [("_law_k", 12)]) rfl sc_l_right3.nd rfl rfl (sw_true rfl rfl rfl (by decide +kernel)) (di_range1 rfl T.m_range (de_fnH h_draw (hr.mono (by decide)) rfl tk (da_cons (de_var (pv 0)) (da_cons (de_int pe_int) (da_nil))))) (blkOk_by (N := ["_law_state", "_law_wishes", "_law_given", "_law_menu", "_law_turn", "_law_left", "_law_right_here", "_law_labels", "_law_some", "_law_plan", "_law_first", "_law_ranks_here", "_law_k", "_law_label"]) (sc := defScope s_l_right3) (own := [("_law_k", 12)]) (by decide +kernel)) (ct_name (by decide)) (fun _ _ _ _ _ => pg_name (i := 12) sc_l_right3.nd rfl (by first | exact Or.inl rfl | exact Or.inr rfl)) (fun _ _ _ _ _ => dts_nil) (fun _ _ _ _ _ => de_sub_ (de_var (pv 3)) (de_fnH h_draw (hr.mono (by decide)) rfl takes0 (da_cons (de_var (pv 0)) (da_cons (de_len rfl T.m_len (de_var (pv 3))) (da_nil))))))
      (dss_cons (ds_set (i := 8) (de_fnH h_order (hr.mono (by decide)) rfl tk (da_cons (de_var (pv 0)) (da_cons (de_lc (fz := true) (own := [("_law_label", 13)]) rfl sc_l_right3.nd (di_any (de_add (de_sortedD true rfl rfl T.m_sorted (de_var (pv 2))) (de_sortedD true rfl rfl T.m_sorted (de_var (pv 2))))) (blkOk_by (N := ["_law_state", "_law_wishes", "_law_given", "_law_menu", "_law_turn", "_law_left", "_law_right_here", "_law_labels", "_law_some", "_law_plan", "_law_first", "_law_ranks_here", "_law_k", "_law_label"]) (sc := defScope s_l_right3) (own := [("_law_label", 13)]) (by decide +kernel)) (ct_name (by decide)) (fun _ _ _ _ _ => pg_name (i := 13) sc_l_right3.nd rfl (by first | exact Or.inl rfl | exact Or.inr rfl)) (fun _ _ _ _ _ => dts_one (dt_eq hr.units (de_fnH h_draw (hr.mono (by decide)) rfl takes0 (da_cons (de_var (pv 0)) (da_cons (de_int pe_int) (da_nil)))) (de_int pe_int))) (fun _ _ _ _ _ => de_var (pv 13))) (da_nil)))) sc_l_right3.nd)
      (dss_one (ds_for hp rfl (di_any (de_lst (da_cons (de_tup (da_cons (de_int pe_int) (da_cons (de_var (pv 5)) (da_nil)))) (da_cons (de_tup (da_cons (de_int pe_int) (da_cons (de_var (pv 5)) (da_nil)))) (da_cons (de_tup (da_cons (de_int pe_int) (da_cons (de_var (pv 7)) (da_nil)))) (da_cons (de_tup (da_cons (de_int pe_int) (da_cons (de_var (pv 8)) (da_nil)))) (da_cons (de_tup (da_cons (de_int pe_int) (da_cons (de_tuple rfl T.m_tuple (de_var (pv 7))) (da_nil)))) (da_cons (de_tup (da_cons (de_int pe_int) (da_cons (de_tuple rfl T.m_tuple (de_var (pv 8))) (da_nil)))) (da_nil))))))))) (dg_pair (pg_tup rfl (pgs_cons (pg_name (i := 9) sc_l_right3.nd rfl (by first | exact Or.inl rfl | exact Or.inr rfl)) (pgs_cons (pg_name (i := 10) sc_l_right3.nd rfl (by first | exact Or.inl rfl | exact Or.inr rfl)) pgs_nil)))) (dss_one (ds_if (dt_ne hr.units (de_fnH h_l_told3 (hr.mono (by decide)) rfl tk (da_cons (de_var (pv 1)) (da_cons (de_var (pv 9)) (da_cons (de_var (pv 10)) (da_cons (de_var (pv 6)) (da_nil)))))) (de_fnH h_l_tdue3 (hr.mono (by decide)) rfl tk (da_cons (de_var (pv 2)) (da_cons (de_var (pv 9)) (da_cons (de_var (pv 10)) (da_cons (de_var (pv 6)) (da_nil))))))) (dss_one (ds_ret (de_bl pe_bl))) (dss_nil))))))))))
      (dss_cons (ds_set (i := 11) (de_meth0H T.c_Wishes h_W_ranks (hr.mono (by decide)) tk (de_var (pv 1))) sc_l_right3.nd)
      (dss_cons (ds_if (PW.pt (pw_or' (dt_not (dt_val (de_isi .list (by decide) rfl T.m_isinstance (de_var (pv 11)) rfl T.m_list (by decide +kernel)))) (pw_or1 (dt_ne hr.units (de_var (pv 11)) (de_fnH h_l_ranks4 (hr.mono (by decide)) rfl tk (da_cons (de_var (pv 2)) (da_nil))))))) (dss_one (ds_ret (de_bl pe_bl))) (dss_nil))
      (dss_cons (ds_drop (de_clear (de_var (pv 11))))
      (dss_one (ds_ret (de_eq hr.units (de_meth0H T.c_Wishes h_W_ranks (hr.mono (by decide)) tk (de_var (pv 1))) (de_fnH h_l_ranks4 (hr.mono (by decide)) rfl tk (da_cons (de_var (pv 2)) (da_nil))))))))))
theorem sc_law : FnScope ["_law_script", "_law_state", "_law_labels", "_law_turn", "_law_scale", "_law_given", "_law_passed", "_law_due_here", "_law_wishes", "_law_told_here", "_law_first", "_law_label"] ["_law_script"] (defScope s_law) := ⟨rfl, rfl, rfl, by decide +kernel, rfl, by decide +kernel, by decide +kernel⟩
theorem ok_law (T : Txt K C mg) (h_W_initE : HasIk P w K mg base C.W "Wishes" 4 ["self", "amounts"] (S_W_initE C) (kb_W_initE K)) (h_W_amountsC : HasM P w K mg base C.W "amounts" 1 ["self"] (S_W_amountsC C)) (h_W_best : HasMk P w K mg base C.W "best" 3 ["self", "names"] (S_W_best C) (kb_W_best K)) (h_W_prefersX : HasMk P w K mg base C.W "prefers" 3 ["self", "one", "other"] (S_W_prefersX C) (kb_W_prefersX K)) (h_draw : Has P w K mg base "_law_draw" 1 ["_law_state", "_law_size"] S_draw (fun _ => True)) (h_l_due3 : Has P w K mg base "_law_due" 2 ["_law_given"] S_l_due3 (fun _ => True)) (h_l_made3 : Has P w K mg base "_law_made" 6 ["_law_given"] (S_l_made3 C) (fun _ => True)) (h_names : Has P w K mg base "_law_names" 2 ["_law_state", "_law_count"] S_names (fun _ => True)) (h_l_odd3 : Has P w K mg base "_law_odd" 2 ["_law_state"] S_l_odd3 (fun _ => True)) (h_order : Has P w K mg base "_law_order" 2 ["_law_state", "_law_items"] S_order24 (fun _ => True)) (h_l_right3 : Has P w K mg base "_law_right" 6 ["_law_state", "_law_wishes", "_law_given"] (S_l_right3 C) (fun _ => True)) (h_start : Has P w K mg base "_law_start" 1 ["_law_script"] S_start (fun _ => True)) {f : Addr} {fd : FuncData} (F : Fun K "law" "law" s_law f fd) : FnOk P w K mg base (L2.CX P w) 7 f fd ["_law_script"] (spOf K S_law) := by
  refine fun_deep (T := (t_law C)) (k := 6) F sc_law ?_ (fun cdv A outer s H E hr => ?_) (rd_law (C := C))
  · intro ds μ Q E h; first | (obtain ⟨rfl, _⟩ := h; rfl; done) | (obtain ⟨_, rfl, _⟩ := h; rfl; done) | (obtain ⟨_, _, rfl, _⟩ := h; rfl; done) | (obtain ⟨_, _, _, rfl, _⟩ := h; rfl; done) | (obtain ⟨_, _, _, _, rfl, _⟩ := h; rfl; done) | (obtain ⟨_, _, _, _, _, rfl, _⟩ := h; rfl; done) | (obtain ⟨_, _, _, _, _, _, rfl, _⟩ := h; rfl; done) | (obtain ⟨_, _, _, _, _, _, _, rfl, _⟩ := h; rfl; done) | (obtain ⟨_, _, _, _, _, _, _, _, rfl, _⟩ := h; rfl; done) | (obtain ⟨_, _, _, _, _, _, _, _, _, rfl, _⟩ := h; rfl; done) | (rcases h with ⟨_, rfl | rfl, _⟩ <;> rfl) | (rcases h with ⟨_, _, rfl | rfl, _⟩ <;> rfl) | (rcases h with h | h <;> first | (obtain ⟨rfl, _⟩ := h; rfl; done) | (obtain ⟨_, rfl, _⟩ := h; rfl; done) | (obtain ⟨_, _, rfl, _⟩ := h; rfl; done) | (obtain ⟨_, _, _, rfl, _⟩ := h; rfl; done) | (obtain ⟨_, _, _, _, rfl, _⟩ := h; rfl; done) | (obtain ⟨_, _, _, _, _, rfl, _⟩ := h; rfl; done) | (obtain ⟨_, _, _, _, _, _, rfl, _⟩ := h; rfl; done) | (obtain ⟨_, _, _, _, _, _, _, rfl, _⟩ := h; rfl; done) | (obtain ⟨_, _, _, _, _, _, _, _, rfl, _⟩ := h; rfl; done) | (obtain ⟨_, _, _, _, _, _, _, _, _, rfl, _⟩ := h; rfl; done) | (rcases h with ⟨_, rfl | rfl, _⟩ <;> rfl))
  · have tk := takes_of (X := cxOf (L2.CX P w) P w K mg base ["_law_script", "_law_state", "_law_labels", "_law_turn", "_law_scale", "_law_given", "_law_passed", "_law_due_here", "_law_wishes", "_law_told_here", "_law_first", "_law_label"] "law" (defScope s_law) f cdv A outer s H E) rfl rfl rfl rfl
    have hp := passes_of (X := cxOf (L2.CX P w) P w K mg base ["_law_script", "_law_state", "_law_labels", "_law_turn", "_law_scale", "_law_given", "_law_passed", "_law_due_here", "_law_wishes", "_law_told_here", "_law_first", "_law_label"] "law" (defScope s_law) f cdv A outer s H E) rfl
    exact dss_cons (ds_set (i := 1) (de_fnH h_start (hr.mono (by decide)) rfl tk (da_cons (de_var (pv 0)) (da_nil))) sc_law.nd)
      (dss_cons (ds_set (i := 2) (de_fnH h_order (hr.mono (by decide)) rfl tk (da_cons (de_var (pv 1)) (da_cons (de_fnH h_names (hr.mono (by decide)) rfl tk (da_cons (de_var (pv 1)) (da_cons (de_sub_ (de_lst (da_cons (de_int pe_int) (da_cons (de_int pe_int) (da_cons (de_int pe_int) (da_cons (de_int pe_int) (da_cons (de_int pe_int) (da_cons (de_int pe_int) (da_cons (de_int pe_int) (da_cons (de_int pe_int) (da_cons (de_int pe_int) (da_nil))))))))))) (de_fnH h_draw (hr.mono (by decide)) rfl tk (da_cons (de_var (pv 1)) (da_cons (de_int pe_int) (da_nil))))) (da_nil)))) (da_nil)))) sc_law.nd)
      (dss_cons (ds_for hp rfl (di_range1 rfl T.m_range (de_sub_ (de_lst (da_cons (de_int pe_int) (da_cons (de_int pe_int) (da_cons (de_int pe_int) (da_cons (de_int pe_int) (da_cons (de_int pe_int) (da_cons (de_int pe_int) (da_nil)))))))) (de_fnH h_draw (hr.mono (by decide)) rfl tk (da_cons (de_var (pv 1)) (da_cons (de_int pe_int) (da_nil)))))) (dg_name (pg_name (i := 3) sc_law.nd rfl (by first | exact Or.inl rfl | exact Or.inr rfl))) (dss_one (ds_if (dt_ne hr.units (de_var (pv 2)) (de_lst (da_nil))) (dss_one (ds_asg (de_sub_ (de_lst (da_cons (de_str pe_str) (da_cons (de_str pe_str) (da_cons (de_str pe_str) (da_cons (de_str pe_str) (da_cons (de_str pe_str) (da_cons (de_str pe_str) (da_nil)))))))) (de_fnH h_draw (hr.mono (by decide)) rfl tk (da_cons (de_var (pv 1)) (da_cons (de_int pe_int) (da_nil))))) (dg_setI (de_var (pv 2)) (de_fnH h_draw (hr.mono (by decide)) rfl tk (da_cons (de_var (pv 1)) (da_cons (de_len rfl T.m_len (de_var (pv 2))) (da_nil)))) (pg_sub (de_var (pv 2)) (de_fnH h_draw (hr.mono (by decide)) rfl tk (da_cons (de_var (pv 1)) (da_cons (de_len rfl T.m_len (de_var (pv 2))) (da_nil)))) set_list)))) (dss_nil))))
      (dss_cons (ds_set (i := 4) (de_sub_ (de_lst (da_cons (de_int pe_int) (da_cons (de_int pe_int) (da_cons (de_pow (de_int pe_int) (de_int pe_int)) (da_nil))))) (de_fnH h_draw (hr.mono (by decide)) rfl tk (da_cons (de_var (pv 1)) (da_cons (de_int pe_int) (da_nil))))) sc_law.nd)
      (dss_cons (ds_set (i := 5) (de_dictP false rfl rfl T.m_dict (de_lc (fz := true) (own := [("_law_label", 11)]) rfl sc_law.nd (di_any (de_var (pv 2))) (blkOk_by (N := ["_law_script", "_law_state", "_law_labels", "_law_turn", "_law_scale", "_law_given", "_law_passed", "_law_due_here", "_law_wishes", "_law_told_here", "_law_first", "_law_label"]) (sc := defScope s_law) (own := [("_law_label", 11)]) (by decide +kernel)) (ct_name (by decide)) (fun _ _ _ _ _ => pg_name (i := 11) sc_law.nd rfl (by first | exact Or.inl rfl | exact Or.inr rfl)) (fun _ _ _ _ _ => dts_nil) (fun _ _ _ _ _ => de_tup (da_cons (de_var (pv 11)) (da_cons (de_mul (de_fnH h_draw (hr.mono (by decide)) rfl takes0 (da_cons (de_var (pv 1)) (da_cons (de_var (pv 4)) (da_nil)))) (de_sub_ (de_lst (da_cons (de_int pe_int) (da_cons (de_neg (de_int pe_int)) (da_nil)))) (de_fnH h_draw (hr.mono (by decide)) rfl takes0 (da_cons (de_var (pv 1)) (da_cons (de_int pe_int) (da_nil)))))) (da_nil)))))) sc_law.nd)
      (dss_cons (ds_for hp rfl (di_range1 rfl T.m_range (de_sub_ (de_lst (da_cons (de_int pe_int) (da_cons (de_int pe_int) (da_cons (de_int pe_int) (da_cons (de_int pe_int) (da_nil)))))) (de_fnH h_draw (hr.mono (by decide)) rfl tk (da_cons (de_var (pv 1)) (da_cons (de_int pe_int) (da_nil)))))) (dg_name (pg_name (i := 3) sc_law.nd rfl (by first | exact Or.inl rfl | exact Or.inr rfl))) (dss_one (ds_if (dt_ne hr.units (de_var (pv 2)) (de_lst (da_nil))) (dss_one (ds_asg (de_fnH h_l_odd3 (hr.mono (by decide)) rfl tk (da_cons (de_var (pv 1)) (da_nil))) (dg_setD (pg_sub (de_var (pv 5)) (de_sub_ (de_var (pv 2)) (de_fnH h_draw (hr.mono (by decide)) rfl tk (da_cons (de_var (pv 1)) (da_cons (de_len rfl T.m_len (de_var (pv 2))) (da_nil))))) (set_dict (hu_of hr)))))) (dss_nil))))
      (dss_cons (ds_thaw (i := 5) (ds_set (i := 6) (de_dictC false rfl T.m_dict (de_var (pv 5))) sc_law.nd))
      (dss_cons (ds_set (i := 7) (de_fnH h_l_due3 (hr.mono (by decide)) rfl tk (da_cons (de_var (pv 5)) (da_nil))) sc_law.nd)
      (dss_cons (ds_if (PW.pt (pw_or' (dt_neVL hr.units (de_fnH h_l_made3 (hr.mono (by decide)) rfl tk (da_cons (de_var (pv 6)) (da_nil))) (de_var (pv 7))) (pw_or1 (dt_neD hr.units (de_var (pv 6)) (de_var (pv 5)))))) (dss_one (ds_ret (de_bl pe_bl))) (dss_nil))
      (dss_cons (ds_if (dt_ne hr.units (de_sub_ (de_var (pv 7)) (de_int pe_int)) (de_str pe_str)) (dss_one (ds_ret (de_bl pe_bl))) (dss_nil))
      (dss_cons (ds_set (i := 8) (de_makeMK0 h_W_initE (hr.mono (by decide)) rfl kb_W_initE_amounts tk (dk_cons (de_var (pv 6)) (dk_nil))) sc_law.nd)
      (dss_cons (ds_drop (de_clearD (de_var (pv 6))))
      (dss_cons (ds_set (i := 9) (de_meth0H T.c_Wishes h_W_amountsC (hr.mono (by decide)) tk (de_var (pv 8))) sc_law.nd)
      (dss_cons (ds_asg (de_int pe_int) (dg_setD (pg_sub (de_var (pv 9)) (de_str pe_str) (set_dict (hu_of hr)))))
      (dss_cons (ds_if (PW.pt (pw_or' (dt_neD hr.units (de_meth0H T.c_Wishes h_W_amountsC (hr.mono (by decide)) tk (de_var (pv 8))) (de_var (pv 5))) (pw_or1 (dt_not (dt_val (de_fnH h_l_right3 (hr.mono (by decide)) rfl tk (da_cons (de_var (pv 1)) (da_cons (de_var (pv 8)) (da_cons (de_var (pv 5)) (da_nil)))))))))) (dss_one (ds_ret (de_bl pe_bl))) (dss_nil))
      (dss_cons (ds_set (i := 10) (de_sub_ (de_sortedD true rfl rfl T.m_sorted (de_var (pv 5))) (de_int pe_int)) sc_law.nd)
      (dss_one (ds_ret (de_and (de_isB (de_methK0 T.c_Wishes h_W_prefersX (hr.mono (by decide)) kb_W_prefersX_other_one tk (de_var (pv 8)) (dk_cons (de_var (pv 10)) (dk_cons (de_var (pv 10)) (dk_nil)))) (de_bl pe_bl)) (de_one (de_eq hr.units (de_methK0 T.c_Wishes h_W_best (hr.mono (by decide)) kb_W_best_names tk (de_var (pv 8)) (dk_cons (de_lst (da_cons (de_var (pv 10)) (da_nil))) (dk_nil))) (de_tup (da_cons (de_var (pv 10)) (da_nil)))))))))))))))))))))))
end
def FA : List He.Fa := ([.free "len", .free "abs", .free "int", .free "list", .free "tuple", .free "range", .free "isinstance", .free "bool", .free "str", .free "dict", .free "sorted", .free "set", .free "max", .str "LETTERS" "abcdefghijklmnopqrstuvwxyz", .str "DIGITS" "0123456789", .int "LONGEST" 6, .int "MOST_OUTCOMES" 6, .cls "Wishes", .noat "Wishes" "likes", .glo "BadCount"] : List He.Fa) ++ ([.glo "BadName", .glo "BadWish", .glo "DuplicateName", .glo "UnknownName", .glo "ChooserError", .glo "law", .noat "BadCount" "count", .noat "BadName" "name", .noat "DuplicateName" "name", .noat "BadWish" "value", .noat "UnknownName" "name", .glo "valid_name", .glo "is_integer", .glo "check_number", .glo "check_different", .glo "Wishes", .mkr "Wishes", .meth "Wishes" "__getitem__", .meth "Wishes" "amounts", .meth "Wishes" "prefers"] : List He.Fa) ++ ([.meth "Wishes" "best", .meth "Wishes" "ranks", .glo "_law_start", .glo "_law_draw", .glo "_law_names", .glo "_law_order", .glo "_law_good", .glo "_law_odd", .glo "_law_made", .glo "_law_due", .glo "_law_told", .glo "_law_told_due", .glo "_law_ranks", .glo "_law_right"] : List He.Fa)
def EX : List (PySem.W.Frag → Bool) := [xfldB .BadCount "count", xfldB .BadName "name", xfldB .BadWish "value", xfldB .UnknownName "name", emB [.BadName, .DuplicateName, .UnknownName, .BadCount, .BadWish], baseB, errB .BadCount, errB .BadName, errB .DuplicateName, errB .BadWish, errB .UnknownName, propB "Wishes" "outcomes", fnB "Wishes" "__getitem__"]
def FN : List DefA := ([⟨.meth "BadCount" "__init__", "BadCount.__init__", s_BadCount__init_⟩, ⟨.meth "BadName" "__init__", "BadName.__init__", s_BadName__init_⟩, ⟨.meth "DuplicateName" "__init__", "DuplicateName.__init__", s_DuplicateName__init_⟩, ⟨.meth "BadWish" "__init__", "BadWish.__init__", s_BadWish__init_⟩, ⟨.meth "UnknownName" "__init__", "UnknownName.__init__", s_UnknownName__init_⟩, ⟨.glo "valid_name", "valid_name", s_valid_name⟩, ⟨.glo "is_integer", "is_integer", s_is_integer⟩, ⟨.glo "check_number", "check_number", s_check_number⟩, ⟨.glo "check_different", "check_different", s_check_different⟩, ⟨.meth "Wishes" "__init__", "Wishes.__init__", s_W_initE⟩, ⟨.prop "Wishes" "outcomes", "Wishes.outcomes", s_W_outcomes⟩, ⟨.meth "Wishes" "__getitem__", "Wishes.__getitem__", s_W_item⟩, ⟨.meth "Wishes" "amounts", "Wishes.amounts", s_W_amountsC⟩, ⟨.meth "Wishes" "prefers", "Wishes.prefers", s_W_prefersX⟩, ⟨.meth "Wishes" "best", "Wishes.best", s_W_best⟩, ⟨.meth "Wishes" "ranks", "Wishes.ranks", s_W_ranks⟩, ⟨.glo "_law_start", "_law_start", s_start⟩, ⟨.glo "_law_draw", "_law_draw", s_draw⟩, ⟨.glo "_law_names", "_law_names", s_names⟩, ⟨.glo "_law_order", "_law_order", s_order⟩] : List DefA) ++ ([⟨.glo "_law_good", "_law_good", s_l_good24⟩, ⟨.glo "_law_odd", "_law_odd", s_l_odd3⟩, ⟨.glo "_law_made", "_law_made", s_l_made3⟩, ⟨.glo "_law_due", "_law_due", s_l_due3⟩, ⟨.glo "_law_told", "_law_told", s_l_told3⟩, ⟨.glo "_law_told_due", "_law_told_due", s_l_tdue3⟩, ⟨.glo "_law_ranks", "_law_ranks", s_l_ranks4⟩, ⟨.glo "_law_right", "_law_right", s_l_right3⟩, ⟨.glo "law", "law", s_law⟩] : List DefA)
theorem facts {P : Program} {w : World} {K : PySem.W.Frag} {h : Heap} {mg : Str → Option Value} {f : Addr} (X : K.In h) (G : h.Ns mainGlobals mg) (hfa : mg ("law" : Str) = some (.ref f)) (c : SaysA FA EX FN K) :
    ∃ fd : FuncData, (∀ (s : Shared) (v : Value), BindsTo s fd ⟨[v], []⟩ [("_law_script", v)]) ∧ ∀ base : Heap, K.In base → base.Ns mainGlobals mg → FnOk P w K mg base (L2.CX P w) 7 f fd ["_law_script"] (spOf K S_law) := by
  let C : Cs := { W := He.ga K "Wishes" }
  have T : Txt K C mg := ⟨He.free_ok X G (c.fact 0 (f := .free "len") rfl), He.free_ok X G (c.fact 1 (f := .free "abs") rfl), He.free_ok X G (c.fact 2 (f := .free "int") rfl), He.free_ok X G (c.fact 3 (f := .free "list") rfl), He.free_ok X G (c.fact 4 (f := .free "tuple") rfl), He.free_ok X G (c.fact 5 (f := .free "range") rfl), He.free_ok X G (c.fact 6 (f := .free "isinstance") rfl), He.free_ok X G (c.fact 7 (f := .free "bool") rfl), He.free_ok X G (c.fact 8 (f := .free "str") rfl), He.free_ok X G (c.fact 9 (f := .free "dict") rfl), He.free_ok X G (c.fact 10 (f := .free "sorted") rfl), He.free_ok X G (c.fact 11 (f := .free "set") rfl), He.free_ok X G (c.fact 12 (f := .free "max") rfl), He.str_ok X G (c.fact 13 (f := .str "LETTERS" "abcdefghijklmnopqrstuvwxyz") rfl), He.str_ok X G (c.fact 14 (f := .str "DIGITS" "0123456789") rfl), He.int_ok X G (c.fact 15 (f := .int "LONGEST" 6) rfl), He.int_ok X G (c.fact 16 (f := .int "MOST_OUTCOMES" 6) rfl), He.cls_ok (c.fact 17 (f := .cls "Wishes") rfl), He.noat_ok (c.fact 18 (f := .noat "Wishes" "likes") rfl), He.glo_ok X G (c.fact 19 (f := .glo "BadCount") rfl), He.glo_ok X G (c.fact 20 (f := .glo "BadName") rfl), He.glo_ok X G (c.fact 21 (f := .glo "BadWish") rfl), He.glo_ok X G (c.fact 22 (f := .glo "DuplicateName") rfl), He.glo_ok X G (c.fact 23 (f := .glo "UnknownName") rfl), xfldB_ok (c.ex_ 0 (f := xfldB .BadCount "count") rfl), xfldB_ok (c.ex_ 1 (f := xfldB .BadName "name") rfl), xfldB_ok (c.ex_ 2 (f := xfldB .BadWish "value") rfl), xfldB_ok (c.ex_ 3 (f := xfldB .UnknownName "name") rfl), emB_ok (c.ex_ 4 (f := emB [.BadName, .DuplicateName, .UnknownName, .BadCount, .BadWish]) rfl), baseB_ok (c.ex_ 5 (f := baseB) rfl), He.glo_ok X G (c.fact 24 (f := .glo "ChooserError") rfl)⟩
  have e := hfa.symm.trans (He.glo_ok X G (c.fact 25 (f := .glo "law") rfl))
  cases e
  obtain ⟨fd0, F0⟩ := c.def_ 0 (d := ⟨.meth "BadCount" "__init__", "BadCount.__init__", s_BadCount__init_⟩) rfl
  have b0 := F0.binds (ps := ["self", "count"]) fun _ _ _ _ _ _ us hl => match us, hl with | [_, _], _ => rfl
  obtain ⟨fd1, F1⟩ := c.def_ 1 (d := ⟨.meth "BadName" "__init__", "BadName.__init__", s_BadName__init_⟩) rfl
  have b1 := F1.binds (ps := ["self", "name"]) fun _ _ _ _ _ _ us hl => match us, hl with | [_, _], _ => rfl
  obtain ⟨fd2, F2⟩ := c.def_ 2 (d := ⟨.meth "DuplicateName" "__init__", "DuplicateName.__init__", s_DuplicateName__init_⟩) rfl
  have b2 := F2.binds (ps := ["self", "name"]) fun _ _ _ _ _ _ us hl => match us, hl with | [_, _], _ => rfl
  obtain ⟨fd3, F3⟩ := c.def_ 3 (d := ⟨.meth "BadWish" "__init__", "BadWish.__init__", s_BadWish__init_⟩) rfl
  have b3 := F3.binds (ps := ["self", "value"]) fun _ _ _ _ _ _ us hl => match us, hl with | [_, _], _ => rfl
  obtain ⟨fd4, F4⟩ := c.def_ 4 (d := ⟨.meth "UnknownName" "__init__", "UnknownName.__init__", s_UnknownName__init_⟩) rfl
  have b4 := F4.binds (ps := ["self", "name"]) fun _ _ _ _ _ _ us hl => match us, hl with | [_, _], _ => rfl
  obtain ⟨fd5, F5⟩ := c.def_ 5 (d := ⟨.glo "valid_name", "valid_name", s_valid_name⟩) rfl
  have b5 := F5.binds (ps := ["text"]) fun _ _ _ _ _ _ us hl => match us, hl with | [_], _ => rfl
  obtain ⟨fd6, F6⟩ := c.def_ 6 (d := ⟨.glo "is_integer", "is_integer", s_is_integer⟩) rfl
  have b6 := F6.binds (ps := ["value"]) fun _ _ _ _ _ _ us hl => match us, hl with | [_], _ => rfl
  obtain ⟨fd7, F7⟩ := c.def_ 7 (d := ⟨.glo "check_number", "check_number", s_check_number⟩) rfl
  have b7 := F7.binds (ps := ["count"]) fun _ _ _ _ _ _ us hl => match us, hl with | [_], _ => rfl
  obtain ⟨fd8, F8⟩ := c.def_ 8 (d := ⟨.glo "check_different", "check_different", s_check_different⟩) rfl
  have b8 := F8.binds (ps := ["names"]) fun _ _ _ _ _ _ us hl => match us, hl with | [_], _ => rfl
  obtain ⟨fd9, F9⟩ := c.def_ 9 (d := ⟨.meth "Wishes" "__init__", "Wishes.__init__", s_W_initE⟩) rfl
  have b9 := F9.binds (ps := ["self", "amounts"]) fun _ _ _ _ _ _ us hl => match us, hl with | [_, _], _ => rfl
  obtain ⟨fd10, F10⟩ := c.def_ 10 (d := ⟨.prop "Wishes" "outcomes", "Wishes.outcomes", s_W_outcomes⟩) rfl
  have b10 := F10.binds (ps := ["self"]) fun _ _ _ _ _ _ us hl => match us, hl with | [_], _ => rfl
  obtain ⟨fd11, F11⟩ := c.def_ 11 (d := ⟨.meth "Wishes" "__getitem__", "Wishes.__getitem__", s_W_item⟩) rfl
  have b11 := F11.binds (ps := ["self", "name"]) fun _ _ _ _ _ _ us hl => match us, hl with | [_, _], _ => rfl
  obtain ⟨fd12, F12⟩ := c.def_ 12 (d := ⟨.meth "Wishes" "amounts", "Wishes.amounts", s_W_amountsC⟩) rfl
  have b12 := F12.binds (ps := ["self"]) fun _ _ _ _ _ _ us hl => match us, hl with | [_], _ => rfl
  obtain ⟨fd13, F13⟩ := c.def_ 13 (d := ⟨.meth "Wishes" "prefers", "Wishes.prefers", s_W_prefersX⟩) rfl
  have b13 := F13.binds (ps := ["self", "one", "other"]) fun _ _ _ _ _ _ us hl => match us, hl with | [_, _, _], _ => rfl
  obtain ⟨fd14, F14⟩ := c.def_ 14 (d := ⟨.meth "Wishes" "best", "Wishes.best", s_W_best⟩) rfl
  have b14 := F14.binds (ps := ["self", "names"]) fun _ _ _ _ _ _ us hl => match us, hl with | [_, _], _ => rfl
  obtain ⟨fd15, F15⟩ := c.def_ 15 (d := ⟨.meth "Wishes" "ranks", "Wishes.ranks", s_W_ranks⟩) rfl
  have b15 := F15.binds (ps := ["self"]) fun _ _ _ _ _ _ us hl => match us, hl with | [_], _ => rfl
  obtain ⟨fd16, F16⟩ := c.def_ 16 (d := ⟨.glo "_law_start", "_law_start", s_start⟩) rfl
  have b16 := F16.binds (ps := ["_law_script"]) fun _ _ _ _ _ _ us hl => match us, hl with | [_], _ => rfl
  obtain ⟨fd17, F17⟩ := c.def_ 17 (d := ⟨.glo "_law_draw", "_law_draw", s_draw⟩) rfl
  have b17 := F17.binds (ps := ["_law_state", "_law_size"]) fun _ _ _ _ _ _ us hl => match us, hl with | [_, _], _ => rfl
  obtain ⟨fd18, F18⟩ := c.def_ 18 (d := ⟨.glo "_law_names", "_law_names", s_names⟩) rfl
  have b18 := F18.binds (ps := ["_law_state", "_law_count"]) fun _ _ _ _ _ _ us hl => match us, hl with | [_, _], _ => rfl
  obtain ⟨fd19, F19⟩ := c.def_ 19 (d := ⟨.glo "_law_order", "_law_order", s_order⟩) rfl
  have b19 := F19.binds (ps := ["_law_state", "_law_items"]) fun _ _ _ _ _ _ us hl => match us, hl with | [_, _], _ => rfl
  obtain ⟨fd20, F20⟩ := c.def_ 20 (d := ⟨.glo "_law_good", "_law_good", s_l_good24⟩) rfl
  have b20 := F20.binds (ps := ["_law_word"]) fun _ _ _ _ _ _ us hl => match us, hl with | [_], _ => rfl
  obtain ⟨fd21, F21⟩ := c.def_ 21 (d := ⟨.glo "_law_odd", "_law_odd", s_l_odd3⟩) rfl
  have b21 := F21.binds (ps := ["_law_state"]) fun _ _ _ _ _ _ us hl => match us, hl with | [_], _ => rfl
  obtain ⟨fd22, F22⟩ := c.def_ 22 (d := ⟨.glo "_law_made", "_law_made", s_l_made3⟩) rfl
  have b22 := F22.binds (ps := ["_law_given"]) fun _ _ _ _ _ _ us hl => match us, hl with | [_], _ => rfl
  obtain ⟨fd23, F23⟩ := c.def_ 23 (d := ⟨.glo "_law_due", "_law_due", s_l_due3⟩) rfl
  have b23 := F23.binds (ps := ["_law_given"]) fun _ _ _ _ _ _ us hl => match us, hl with | [_], _ => rfl
  obtain ⟨fd24, F24⟩ := c.def_ 24 (d := ⟨.glo "_law_told", "_law_told", s_l_told3⟩) rfl
  have b24 := F24.binds (ps := ["_law_wishes", "_law_plan", "_law_left", "_law_right_here"]) fun _ _ _ _ _ _ us hl => match us, hl with | [_, _, _, _], _ => rfl
  obtain ⟨fd25, F25⟩ := c.def_ 25 (d := ⟨.glo "_law_told_due", "_law_told_due", s_l_tdue3⟩) rfl
  have b25 := F25.binds (ps := ["_law_given", "_law_plan", "_law_left", "_law_right_here"]) fun _ _ _ _ _ _ us hl => match us, hl with | [_, _, _, _], _ => rfl
  obtain ⟨fd26, F26⟩ := c.def_ 26 (d := ⟨.glo "_law_ranks", "_law_ranks", s_l_ranks4⟩) rfl
  have b26 := F26.binds (ps := ["_law_given"]) fun _ _ _ _ _ _ us hl => match us, hl with | [_], _ => rfl
  obtain ⟨fd27, F27⟩ := c.def_ 27 (d := ⟨.glo "_law_right", "_law_right", s_l_right3⟩) rfl
  have b27 := F27.binds (ps := ["_law_state", "_law_wishes", "_law_given"]) fun _ _ _ _ _ _ us hl => match us, hl with | [_, _, _], _ => rfl
  obtain ⟨fd28, F28⟩ := c.def_ 28 (d := ⟨.glo "law", "law", s_law⟩) rfl
  have b28 := F28.binds (ps := ["_law_script"]) fun _ _ _ _ _ _ us hl => match us, hl with | [_], _ => rfl
  have h_BadCount__init_ : ∀ base, HasE P w K mg base .BadCount "count" := fun base => has_BadCount__init_ (C := C) T  F0 (errB_ok (c.ex_ 6 (f := errB .BadCount) rfl)) b0 (He.noat_ok (c.fact 26 (f := .noat "BadCount" "count") rfl))
  have h_BadName__init_ : ∀ base, HasE P w K mg base .BadName "name" := fun base => has_BadName__init_ (C := C) T  F1 (errB_ok (c.ex_ 7 (f := errB .BadName) rfl)) b1 (He.noat_ok (c.fact 27 (f := .noat "BadName" "name") rfl))
  have h_DuplicateName__init_ : ∀ base, HasE P w K mg base .DuplicateName "name" := fun base => has_DuplicateName__init_ (C := C) T  F2 (errB_ok (c.ex_ 8 (f := errB .DuplicateName) rfl)) b2 (He.noat_ok (c.fact 28 (f := .noat "DuplicateName" "name") rfl))
  have h_BadWish__init_ : ∀ base, HasE P w K mg base .BadWish "value" := fun base => has_BadWish__init_ (C := C) T  F3 (errB_ok (c.ex_ 9 (f := errB .BadWish) rfl)) b3 (He.noat_ok (c.fact 29 (f := .noat "BadWish" "value") rfl))
  have h_UnknownName__init_ : ∀ base, HasE P w K mg base .UnknownName "name" := fun base => has_UnknownName__init_ (C := C) T  F4 (errB_ok (c.ex_ 10 (f := errB .UnknownName) rfl)) b4 (He.noat_ok (c.fact 30 (f := .noat "UnknownName" "name") rfl))
  have h_valid_name : ∀ base, Has P w K mg base "valid_name" 1 ["text"] S_valid_name (fun _ => True) := fun base => has_valid_name (C := C) T  F5 (He.glo_ok X G (c.fact 31 (f := .glo "valid_name") rfl)) b5 trivial
  have h_is_integer : ∀ base, Has P w K mg base "is_integer" 1 ["value"] S_is_integer (fun _ => True) := fun base => has_is_integer (C := C) T  F6 (He.glo_ok X G (c.fact 32 (f := .glo "is_integer") rfl)) b6 trivial
  have h_check_number : ∀ base, Has P w K mg base "check_number" 3 ["count"] S_check_numberX (fun _ => True) := fun base => has_check_number (C := C) T (h_BadCount__init_ base) F7 (He.glo_ok X G (c.fact 33 (f := .glo "check_number") rfl)) b7 trivial
  have h_check_different : ∀ base, Has P w K mg base "check_different" 3 ["names"] S_check_different (fun _ => True) := fun base => has_check_different (C := C) T (h_BadName__init_ base) (h_DuplicateName__init_ base) (h_valid_name base) F8 (He.glo_ok X G (c.fact 34 (f := .glo "check_different") rfl)) b8 trivial
  obtain ⟨⟨oc9, od9, kV9, dc9, pm9, an9, cd9, ct9, sl9, rfl, lk9, cc9⟩, kp9⟩ := id F9
  have h_W_initE : ∀ base, HasIk P w K mg base C.W "Wishes" 4 ["self", "amounts"] (S_W_initE C) (kb_W_initE K) := fun base => has_W_initE (C := C) T (h_BadWish__init_ base) (h_check_different base) (h_check_number base) (h_is_integer base) F9 (He.glo_ok X G (c.fact 35 (f := .glo "Wishes") rfl)) (He.mkr_ok (c.fact 36 (f := .mkr "Wishes") rfl)) b9 (fun s us ws _ h1 h2 => (match us, ws, h1, h2 with | [_], [_], _, _ => .of_eq rfl))
  have h_W_outcomes : ∀ base, HasP P w K mg base C.W "outcomes" 1 ["self"] (S_W_outcomes C) := fun base => has_W_outcomes (C := C) T  F10 (propB_ok (c.ex_ 11 (f := propB "Wishes" "outcomes") rfl)) b10
  have h_W_item : ∀ base, HasX P w K mg base C.W 3 ["self", "name"] (S_W_item C) := fun base => has_W_item (C := C) T (h_UnknownName__init_ base) F11 (He.meth_ok (c.fact 37 (f := .meth "Wishes" "__getitem__") rfl)).at_ (c.ex_ 12 (f := fnB "Wishes" "__getitem__") rfl) (He.meth_ok (c.fact 37 (f := .meth "Wishes" "__getitem__") rfl)).fn b11
  have h_W_amountsC : ∀ base, HasM P w K mg base C.W "amounts" 1 ["self"] (S_W_amountsC C) := fun base => has_W_amountsC (C := C) T  F12 (He.meth_ok (c.fact 38 (f := .meth "Wishes" "amounts") rfl)) b12
  obtain ⟨⟨oc13, od13, kV13, dc13, pm13, an13, cd13, ct13, sl13, rfl, lk13, cc13⟩, kp13⟩ := id F13
  have h_W_prefersX : ∀ base, HasMk P w K mg base C.W "prefers" 3 ["self", "one", "other"] (S_W_prefersX C) (kb_W_prefersX K) := fun base => has_W_prefersX (C := C) T (h_UnknownName__init_ base) F13 (He.meth_ok (c.fact 39 (f := .meth "Wishes" "prefers") rfl)) b13 (fun s us ws _ h1 h2 => (match us, ws, h1, h2 with | [_], [_, _], _, _ => .of_eq rfl))
  obtain ⟨⟨oc14, od14, kV14, dc14, pm14, an14, cd14, ct14, sl14, rfl, lk14, cc14⟩, kp14⟩ := id F14
  have h_W_best : ∀ base, HasMk P w K mg base C.W "best" 3 ["self", "names"] (S_W_best C) (kb_W_best K) := fun base => has_W_best (C := C) T (h_BadCount__init_ base) (h_UnknownName__init_ base) F14 (He.meth_ok (c.fact 40 (f := .meth "Wishes" "best") rfl)) b14 (fun s us ws _ h1 h2 => (match us, ws, h1, h2 with | [_], [_], _, _ => .of_eq rfl))
  have h_W_ranks : ∀ base, HasM P w K mg base C.W "ranks" 4 ["self"] (S_W_ranks3 C) := fun base => has_W_ranks (C := C) T (h_W_best base) F15 (He.meth_ok (c.fact 41 (f := .meth "Wishes" "ranks") rfl)) b15
  have h_start : ∀ base, Has P w K mg base "_law_start" 1 ["_law_script"] S_start (fun _ => True) := fun base => has_start (C := C) T  F16 (He.glo_ok X G (c.fact 42 (f := .glo "_law_start") rfl)) b16 trivial
  have h_draw : ∀ base, Has P w K mg base "_law_draw" 1 ["_law_state", "_law_size"] S_draw (fun _ => True) := fun base => has_draw (C := C) T  F17 (He.glo_ok X G (c.fact 43 (f := .glo "_law_draw") rfl)) b17 trivial
  have h_names : ∀ base, Has P w K mg base "_law_names" 2 ["_law_state", "_law_count"] S_names (fun _ => True) := fun base => has_names (C := C) T (h_draw base) F18 (He.glo_ok X G (c.fact 44 (f := .glo "_law_names") rfl)) b18 trivial
  have h_order : ∀ base, Has P w K mg base "_law_order" 2 ["_law_state", "_law_items"] S_order24 (fun _ => True) := fun base => has_order (C := C) T (h_draw base) F19 (He.glo_ok X G (c.fact 45 (f := .glo "_law_order") rfl)) b19 trivial
  have h_l_good24 : ∀ base, Has P w K mg base "_law_good" 1 ["_law_word"] S_l_good24 (fun _ => True) := fun base => has_l_good24 (C := C) T  F20 (He.glo_ok X G (c.fact 46 (f := .glo "_law_good") rfl)) b20 trivial
  have h_l_odd3 : ∀ base, Has P w K mg base "_law_odd" 2 ["_law_state"] S_l_odd3 (fun _ => True) := fun base => has_l_odd3 (C := C) T (h_draw base) F21 (He.glo_ok X G (c.fact 47 (f := .glo "_law_odd") rfl)) b21 trivial
  have h_l_made3 : ∀ base, Has P w K mg base "_law_made" 6 ["_law_given"] (S_l_made3 C) (fun _ => True) := fun base => has_l_made3 (C := C) T (h_W_initE base) (h_W_amountsC base) (h_W_outcomes base) F22 (He.glo_ok X G (c.fact 48 (f := .glo "_law_made") rfl)) b22 trivial
  have h_l_due3 : ∀ base, Has P w K mg base "_law_due" 2 ["_law_given"] S_l_due3 (fun _ => True) := fun base => has_l_due3 (C := C) T (h_l_good24 base) F23 (He.glo_ok X G (c.fact 49 (f := .glo "_law_due") rfl)) b23 trivial
  have h_l_told3 : ∀ base, Has P w K mg base "_law_told" 5 ["_law_wishes", "_law_plan", "_law_left", "_law_right_here"] (S_l_told3 C) (fun _ => True) := fun base => has_l_told3 (C := C) T (h_W_item base) (h_W_best base) (h_W_prefersX base) F24 (He.glo_ok X G (c.fact 50 (f := .glo "_law_told") rfl)) b24 trivial
  have h_l_tdue3 : ∀ base, Has P w K mg base "_law_told_due" 1 ["_law_given", "_law_plan", "_law_left", "_law_right_here"] S_l_tdue3 (fun _ => True) := fun base => has_l_tdue3 (C := C) T  F25 (He.glo_ok X G (c.fact 51 (f := .glo "_law_told_due") rfl)) b25 trivial
  have h_l_ranks4 : ∀ base, Has P w K mg base "_law_ranks" 1 ["_law_given"] S_l_ranks4 (fun _ => True) := fun base => has_l_ranks4 (C := C) T  F26 (He.glo_ok X G (c.fact 52 (f := .glo "_law_ranks") rfl)) b26 trivial
  have h_l_right3 : ∀ base, Has P w K mg base "_law_right" 6 ["_law_state", "_law_wishes", "_law_given"] (S_l_right3 C) (fun _ => True) := fun base => has_l_right3 (C := C) T (h_W_ranks base) (h_draw base) (h_order base) (h_l_ranks4 base) (h_l_told3 base) (h_l_tdue3 base) F27 (He.glo_ok X G (c.fact 53 (f := .glo "_law_right") rfl)) b27 trivial
  obtain ⟨⟨_, _, _, _, _, _, _, _, _, rfl, _, _⟩, _⟩ := id F28
  exact ⟨_, fun s v => .of_eq rfl, fun base _ _ => ok_law (C := C) T (h_W_initE base) (h_W_amountsC base) (h_W_best base) (h_W_prefersX base) (h_draw base) (h_l_due3 base) (h_l_made3 base) (h_names base) (h_l_odd3 base) (h_order base) (h_l_right3 base) (h_start base) F28⟩
abbrev R : PySem.W.OpenRow := PySem.W.OpenLaw.row PySem.Challenge.rw_twochoosers_k03_wishes
def NM : Names := ⟨[Str.ofString "valid_name", Str.ofString "is_integer", Str.ofString "check_number", Str.ofString "check_different", Str.ofString "_law_start", Str.ofString "_law_draw", Str.ofString "_law_names", Str.ofString "_law_order", Str.ofString "_law_good", Str.ofString "_law_odd", Str.ofString "_law_made", Str.ofString "_law_due", Str.ofString "_law_told", Str.ofString "_law_told_due", Str.ofString "_law_ranks", Str.ofString "_law_right", Str.ofString "law", Str.ofString "Wishes", Str.ofString "ChooserError", Str.ofString "BadName", Str.ofString "DuplicateName", Str.ofString "UnknownName", Str.ofString "BadCount", Str.ofString "BadWish"], [(Str.ofString "BadCount", Str.ofString "__init__"), (Str.ofString "BadName", Str.ofString "__init__"), (Str.ofString "DuplicateName", Str.ofString "__init__"), (Str.ofString "BadWish", Str.ofString "__init__"), (Str.ofString "UnknownName", Str.ofString "__init__"), (Str.ofString "Wishes", Str.ofString "__init__"), (Str.ofString "Wishes", Str.ofString "__getitem__"), (Str.ofString "Wishes", Str.ofString "amounts"), (Str.ofString "Wishes", Str.ofString "prefers"), (Str.ofString "Wishes", Str.ofString "best"), (Str.ofString "Wishes", Str.ofString "ranks")], [(Str.ofString "Wishes", Str.ofString "outcomes")]⟩
abbrev hk : PySem.W.Hook := hookA NM FA EX FN
def ob (s : PySem.W.SharedT) : AlA := obsAG NM FA EX FN (HandSHeadRun.getT s)
theorem ob_eq (s : PySem.W.SharedT) : ob s = hk.obs s.abs := obsAG_eq (HandSHeadRun.getT_eq s)
def loose : List Str := ([Str.ofString "_wall", Str.ofString "ChooserError", Str.ofString "BadName", Str.ofString "DuplicateName", Str.ofString "UnknownName", Str.ofString "BadCount", Str.ofString "BadWish", Str.ofString "LETTERS", Str.ofString "DIGITS", Str.ofString "LONGEST", Str.ofString "valid_name", Str.ofString "is_integer", Str.ofString "MOST_OUTCOMES", Str.ofString "check_number", Str.ofString "check_different", Str.ofString "Wishes", Str.ofString "_law_start", Str.ofString "_law_draw", Str.ofString "_law_names", Str.ofString "_law_good"] : List Str) ++ ([Str.ofString "_law_order", Str.ofString "_law_odd", Str.ofString "_law_made", Str.ofString "_law_due", Str.ofString "_law_told", Str.ofString "_law_told_due", Str.ofString "_law_ranks", Str.ofString "_law_right"] : List Str)
theorem run (w : World) : HandSHeadRun.RunEq R (PySem.W.view R.prog [32]) hk ob 9000 loose w := by
  intro os
  kernel_rfl
end K03
open PySem PySem.W PySem.Calls PyProof.Rows
set_option maxRecDepth 100000 in
set_option maxHeartbeats 0 in
theorem PySem.Challenge.cw_twochoosers_k03_wishes_holds : PySem.Challenge.rw_twochoosers_k03_wishes.Holds := by
  w_on; o_law
  refine HandSHeadRun.head_any (r := OpenLaw.row PySem.Challenge.rw_twochoosers_k03_wishes) (q := view (OpenLaw.row PySem.Challenge.rw_twochoosers_k03_wishes).prog [32]) (H := K03.hk) (ob := K03.ob) (M := 9000) (loose := K03.loose) (d := HandSHeadRun.topDef (OpenLaw.row PySem.Challenge.rw_twochoosers_k03_wishes).prog 32) (kwd := []) K03.ob_eq
    (by kernel_rfl) (fun s => by kernel_rfl) K03.run (by kernel_rfl) (by kernel_rfl) (by kernel_rfl) (by rfl) (by first | assumption | decide +kernel) (by decide +kernel) ⟨rfl, rfl, rfl, rfl, rfl, by decide +kernel⟩ ?hw ?hc
  case hw => w_witness2
  case hc =>
    refine DV.walk_deepE (l := PySem.Challenge.rw_twochoosers_k03_wishes) (n := 63) (k := 7) (x := "_law_script") (S := DV.S_law) rfl (by decide) (by kernel_rfl) ?F (fun ns hl => ⟨ns, rfl, hl, rfl, fun _ => rfl⟩)
    intro w mg fa h Y G hmg0
    obtain ⟨K, KX, c⟩ := Y
    have hmg : mg ("law" : PySem.Str) = some (.ref fa) := by
      have e : (HandSHeadRun.topDef (OpenLaw.row PySem.Challenge.rw_twochoosers_k03_wishes).prog 32).name = ("law" : PySem.Str) := by kernel_rfl
      rw [← e]
      exact hmg0
    obtain ⟨fd, hb, hF⟩ := K03.facts (P := (PySem.Challenge.rw_twochoosers_k03_wishes).prog) (w := w) KX G hmg c
    exact ⟨K, fd, KX, hb, hF⟩
