import PyProof.Rows.All
import Wide.All
import OpenK.AllK
import Wide.FinOn
import HandS.ForMost
import HandS.Exc
import HandS.ExcOwn
import HandS.TryOnly
import HandS.TryMany
import HandS.ExcInit
import HandS.WordsExc
import HandS.Walk
import HandS.IsInst
import HandS.Flow
import HandS.Lambda
import HandS.HeadHook1
import HandS.TupAny
import HandS.Style
import HandS.Wide
import HandS.Property
import HandS.Deep
import HandS.SortKw
import KE.SortKeyHeap
import HandS.Keys
import PyProof.P3In
import HandS.SetTxt0
import HandS.SetBool
import HandS.SetKeys
import HandS.More
import HandS.Small
import HandS.Head0
import HandS.Head1
import HandS.Head2
import HandS.ClsMeth
import HandS.ExcField
import HandS.Zip0
import PyProof.TupleOfGen
import HandS.SetFor
import HandS.NoneIn
import HandS.DictComp
import PyProof.Rows.MinMaxN
import KE.KEqNest
import PyProof.NeKinds
import PyProof.InstNe
import KE.KOpsOwn
import HandS.Conv
import PyProof.EqKinds
import KE.KEqDict
import HandS.DictTup
import HandS.OwnEq
import KE.KCallOwn
import KE.KExcIs
import HandS.Codes
import HandS.Base
import PySem.Challenge.RW_twochoosers_k11_table_texts
set_option Elab.async false
set_option linter.all false
set_option maxRecDepth 100000
set_option maxHeartbeats 4000000
/-! Deep data over the hand layer: values as trees, mutable objects as cells, and readings that speak of no heap. -/
namespace DV
open PySem L2
inductive D where
  | non | bl (b : Bool) | int (i : Int) | str (x : Str) | ref (l : Nat) | cls (C : Addr)
  | scr (ns : List Int) | lst (xs : List D) | tup (xs : List D) | dct (kvs : List (Key × D)) | ins (C : Addr) (fs : List (Str × D))
abbrev Gam := List (Option D)
inductive Cell where
  | gone | lst (xs : List D) | dct (kvs : List (Key × D)) | ins (C : Addr) (fs : List (Str × D)) | orc (n : Nat × Bool) | exc (dd : Addr) (fs : List (Str × D))
abbrev Mu := List Cell
/-- the heap as it is looked at: Hb what is fixed for ever, H all, al the cells' addresses, ph the oracle's inner ones -/
structure Now where
  Hb : Hp
  H : Hp
  al : List Addr
  ph : List Addr
mutual
inductive Rep (K : PySem.W.Frag) (Hb : Hp) (al : List Addr) : V → D → Prop
  | non : Rep K Hb al .non .non
  | bl (b) : Rep K Hb al (.bl b) (.bl b)
  | int (i) : Rep K Hb al (.int i) (.int i)
  | str (x) : Rep K Hb al (.str x) (.str x)
  | ref {l a} : al[l]? = some a → Rep K Hb al (.ref a) (.ref l)
  | cls (C) : Rep K Hb al (.ref C) (.cls C)
  | scr {a ns} : SqL K Hb a (ns.map V.int) → Rep K Hb al (.ref a) (.scr ns)
  | lst {a vs ds} : Hb a = some (.lst vs) → Reps K Hb al vs ds → Rep K Hb al (.ref a) (.lst ds)
  | tup {a vs ds} : Hb a = some (.tup vs) → Reps K Hb al vs ds → Rep K Hb al (.ref a) (.tup ds)
  | dct {a us ks ds} : Rd Hb a (.dK us) → ks = us.map (·.1) → Reps K Hb al (us.map (·.2)) ds → Rep K Hb al (.ref a) (.dct (ks.zip ds))
  | ins {a C dx us ks ds} : Hb a = some (.ins C dx us) → ks = us.map (·.1) → Reps K Hb al (us.map (·.2)) ds → Rep K Hb al (.ref a) (.ins C (ks.zip ds))
inductive Reps (K : PySem.W.Frag) (Hb : Hp) (al : List Addr) : List V → List D → Prop
  | nil : Reps K Hb al [] []
  | cons {v d vs ds} : Rep K Hb al v d → Reps K Hb al vs ds → Reps K Hb al (v :: vs) (d :: ds)
end
theorem nn {α : Type} {x : Option α} {o : α} (h : x = some o) : x ≠ none := by rw [h]; simp
theorem same_rd {H H' : Hp} {a : Addr} {u : HO} (e : Same H H') (h : Rd H a u) : Rd H' a u := h.imp (fun h => e _ _ h) fun ⟨o, h⟩ => ⟨o, e _ _ h⟩
theorem rd_inj {H : Hp} {a : Addr} {us us' : List (Key × V)} (h : Rd H a (.dK us)) (h' : Rd H a (.dK us')) : us = us' := by
  rcases h with h | ⟨o, h⟩ <;> rcases h' with h' | ⟨o', h'⟩ <;> (rw [h] at h'; cases h' <;> rfl)
theorem pre_get {α : Type} {l l' : List α} (p : l <+: l') {i : Nat} {a : α} (h : l[i]? = some a) : l'[i]? = some a := by
  obtain ⟨t, rfl⟩ := p
  have hi : i < l.length := (List.getElem?_eq_some_iff.mp h).1
  rw [List.getElem?_append_left hi]
  exact h
section
variable {K : PySem.W.Frag} {Hb Hb' : Hp} {al al' : List Addr}
/-- what was fixed stays; a dict may have been locked -/
def SameL (H H' : Hp) : Prop := ∀ b o, H b = some o → H' b = some o ∨ ∃ us od, o = .dK us ∧ H' b = some (.frz od (.dK us))
theorem Same.l {H H' : Hp} (s : Same H H') : SameL H H' := fun b o h => .inl (s b o h)
theorem SameL.refl (H : Hp) : SameL H H := fun b o h => .inl h
theorem SameL.ne {H H' : Hp} (s : SameL H H') {b : Addr} {o : HO} (h : H b = some o) (hn : ∀ us, o ≠ .dK us) : H' b = some o := (s b o h).elim id fun ⟨us, _, e, _⟩ => absurd e (hn us)
theorem SameL.trans {H H' H'' : Hp} (s : SameL H H') (t : SameL H' H'') : SameL H H'' := fun b o h => by
  rcases s b o h with h1 | ⟨us, od, e1, h1⟩
  · exact t b o h1
  · exact .inr ⟨us, od, e1, t.ne h1 (fun _ z => nomatch z)⟩
theorem SameL.lst {H H' : Hp} (s : SameL H H') {b : Addr} {vs : List V} (h : H b = some (.lst vs)) : H' b = some (.lst vs) := s.ne h (fun _ z => nomatch z)
theorem SameL.tup {H H' : Hp} (s : SameL H H') {b : Addr} {vs : List V} (h : H b = some (.tup vs)) : H' b = some (.tup vs) := s.ne h (fun _ z => nomatch z)
theorem SameL.rd {H H' : Hp} {a : Addr} {us : List (Key × V)} (s : SameL H H') (h : Rd H a (.dK us)) : Rd H' a (.dK us) := by
  rcases h with h | ⟨o, h⟩
  · rcases s _ _ h with h | ⟨vs, od, e, h⟩
    · exact .inl h
    · cases e; exact .inr ⟨od, h⟩
  · exact .inr ⟨o, s.ne h (fun _ z => nomatch z)⟩
theorem SameL.seq {K : PySem.W.Frag} {H H' : Hp} (s : SameL H H') {a : Addr} {vs : List V} (h : SqL K H a vs) : SqL K H' a vs := by
  rcases h with (h | ⟨o, h⟩) | h
  · exact .inl (.inl (s.lst h))
  · exact .inl (.inr ⟨o, s.ne h (fun _ z => nomatch z)⟩)
  · exact .inr h
mutual
theorem Rep.monoL (s : SameL Hb Hb') (p : al <+: al') : ∀ {v : V} {d : D}, Rep K Hb al v d → Rep K Hb' al' v d
  | _, _, .non => .non
  | _, _, .bl b => .bl b
  | _, _, .int i => .int i
  | _, _, .str x => .str x
  | _, _, .ref h => .ref (pre_get p h)
  | _, _, .cls C => .cls C
  | _, _, .scr h => .scr (s.seq h)
  | _, _, .lst h r => .lst (s.lst h) (Reps.monoL s p r)
  | _, _, .tup h r => .tup (s.tup h) (Reps.monoL s p r)
  | _, _, .dct h e r => .dct (s.rd h) e (Reps.monoL s p r)
  | _, _, .ins h e r => .ins (s.ne h (fun _ z => nomatch z)) e (Reps.monoL s p r)
theorem Reps.monoL (s : SameL Hb Hb') (p : al <+: al') : ∀ {vs : List V} {ds : List D}, Reps K Hb al vs ds → Reps K Hb' al' vs ds
  | _, _, .nil => .nil
  | _, _, .cons h r => .cons (Rep.monoL s p h) (Reps.monoL s p r)
end
theorem Rep.mono (s : Same Hb Hb') (p : al <+: al') {v : V} {d : D} (h : Rep K Hb al v d) : Rep K Hb' al' v d := h.monoL (Same.l s) p
theorem Reps.mono (s : Same Hb Hb') (p : al <+: al') {vs : List V} {ds : List D} (h : Reps K Hb al vs ds) : Reps K Hb' al' vs ds := h.monoL (Same.l s) p
theorem Reps.length : ∀ {vs : List V} {ds : List D}, Reps K Hb al vs ds → vs.length = ds.length
  | _, _, .nil => rfl
  | _, _, .cons _ r => by simp [Reps.length r]
theorem Reps.get : ∀ {vs : List V} {ds : List D} {i : Nat} {d : D}, Reps K Hb al vs ds → ds[i]? = some d → ∃ v, vs[i]? = some v ∧ Rep K Hb al v d
  | _, _, _, _, .nil, e => by simp at e
  | _, _, 0, _, .cons h _, e => by simp at e; subst e; exact ⟨_, rfl, h⟩
  | _, _, i + 1, d, .cons _ t, e => by
    obtain ⟨u, h1, h2⟩ := Reps.get (i := i) (d := d) t (by simpa using e)
    exact ⟨u, by simpa using h1, h2⟩
theorem Reps.append : ∀ {vs us : List V} {ds es : List D}, Reps K Hb al vs ds → Reps K Hb al us es → Reps K Hb al (vs ++ us) (ds ++ es)
  | _, _, _, _, .nil, s => s
  | _, _, _, _, .cons h t, s => .cons h (Reps.append t s)
theorem Reps.set {v : V} {d : D} (h : Rep K Hb al v d) : ∀ {vs : List V} {ds : List D} (i : Nat), Reps K Hb al vs ds → Reps K Hb al (vs.set i v) (ds.set i d)
  | _, _, _, .nil => .nil
  | _, _, 0, .cons _ t => .cons h t
  | _, _, i + 1, .cons q t => .cons q (Reps.set h i t)
theorem Reps.take : ∀ {vs : List V} {ds : List D} (n : Nat), Reps K Hb al vs ds → Reps K Hb al (vs.take n) (ds.take n)
  | _, _, 0, _ => .nil
  | _, _, _ + 1, .nil => .nil
  | _, _, n + 1, .cons r t => .cons r (Reps.take n t)
theorem Reps.drop : ∀ {vs : List V} {ds : List D} (n : Nat), Reps K Hb al vs ds → Reps K Hb al (vs.drop n) (ds.drop n)
  | _, _, 0, r => r
  | _, _, _ + 1, .nil => .nil
  | _, _, n + 1, .cons _ t => Reps.drop n t
theorem Reps.reverse : ∀ {vs : List V} {ds : List D}, Reps K Hb al vs ds → Reps K Hb al vs.reverse ds.reverse
  | _, _, .nil => .nil
  | _, _, .cons h t => by
    rw [List.reverse_cons, List.reverse_cons]
    exact (Reps.reverse t).append (.cons h .nil)
theorem Reps.dropLast : ∀ {vs : List V} {ds : List D}, Reps K Hb al vs ds → Reps K Hb al vs.dropLast ds.dropLast := fun {vs ds} r => by
  rw [List.dropLast_eq_take, List.dropLast_eq_take, r.length]
  exact r.take _
theorem Reps.eraseIdx : ∀ {vs : List V} {ds : List D} (n : Nat), Reps K Hb al vs ds → Reps K Hb al (vs.eraseIdx n) (ds.eraseIdx n)
  | _, _, _, .nil => .nil
  | _, _, 0, .cons _ t => t
  | _, _, n + 1, .cons r t => .cons r (Reps.eraseIdx n t)
theorem Reps.ints : ∀ {vs : List V} (ns : List Int), Reps K Hb al vs (ns.map D.int) → vs = ns.map V.int
  | _, [], .nil => rfl
  | _, _ :: ns, .cons (.int _) t => by rw [List.map_cons, Reps.ints ns t]
theorem Reps.strs : ∀ {vs : List V} (ns : List Str), Reps K Hb al vs (ns.map D.str) → vs = ns.map V.str
  | _, [], .nil => rfl
  | _, _ :: ns, .cons (.str _) t => by rw [List.map_cons, Reps.strs ns t]
theorem reps_ints (ns : List Int) : Reps K Hb al (ns.map V.int) (ns.map D.int) := by
  induction ns with
  | nil => exact .nil
  | cons n ns ih => exact .cons (.int _) ih
theorem reps_strs (ns : List Str) : Reps K Hb al (ns.map V.str) (ns.map D.str) := by
  induction ns with
  | nil => exact .nil
  | cons n ns ih => exact .cons (.str _) ih
end
/-- the oracle of a law: a list of three, the first a list of ints, the second a list of ints or a place, the third a count -/
def OrcAt (H : Hp) (a : Addr) (ph : List Addr) (n : Nat × Bool) : Prop :=
  ∃ (a0 : Addr) (xs : List Int) (y : V) (k : Int), H a = some (.lst [.ref a0, y, .int k]) ∧ H a0 = some (.lst (xs.map .int)) ∧ xs.length ≤ 100 ∧ 0 ≤ k ∧ k + n.1 ≤ 1099511627776 ∧
    ((n.2 = true ∧ ∃ a1 ys, y = .ref a1 ∧ ph = [a0, a1] ∧ a1 ≠ a0 ∧ (∀ x ∈ xs, 0 ≤ x) ∧ H a1 = some (.lst (ys.map V.int)) ∧ ys ≠ [] ∧ ys.length ≤ 100) ∨
     (n.2 = false ∧ ∃ j : Int, y = .int j ∧ ph = [a0] ∧ 0 ≤ j ∧ j + n.1 ≤ 1099511627776))
def CellAt (K : PySem.W.Frag) (n : Now) (a : Addr) : Cell → Prop
  | .gone => True
  | .lst ds => n.Hb a = none ∧ ∃ vs, n.H a = some (.lst vs) ∧ Reps K n.Hb n.al vs ds
  | .dct kvs => n.Hb a = none ∧ ∃ us, n.H a = some (.dK us) ∧ kvs.map (·.1) = us.map (·.1) ∧ Reps K n.Hb n.al (us.map (·.2)) (kvs.map (·.2))
  | .ins C fs => n.Hb a = none ∧ ∃ dx us, n.H a = some (.ins C dx us) ∧ fs.map (·.1) = us.map (·.1) ∧ Reps K n.Hb n.al (us.map (·.2)) (fs.map (·.2))
  | .orc k => n.Hb a = none ∧ OrcAt n.H a n.ph k
  | .exc dd fs => n.Hb a = none ∧ a = dd ∧ ∃ us, n.H a = some (.xd us) ∧ (∀ f, us.lookup f = none ↔ fs.lookup f = none) ∧ ∀ f v, us.lookup f = some v → ∃ d, fs.lookup f = some d ∧ Rep K n.Hb n.al v d
structure SR0 (K : PySem.W.Frag) (n : Now) (μ : Mu) : Prop where
  same : Same n.Hb n.H
  len : n.al.length = μ.length
  nd : n.al.Nodup
  cell : ∀ (i : Nat) a c, n.al[i]? = some a → μ[i]? = some c → CellAt K n a c
  alh : ∀ a ∈ n.al, n.H a ≠ none
  orc1 : ∀ (i j : Nat) a b, μ[i]? = some (.orc a) → μ[j]? = some (.orc b) → i = j
  phb : ∀ b ∈ n.ph, n.Hb b = none ∧ b ∉ n.al ∧ n.H b ≠ none
structure Step (n n' : Now) : Prop where
  same : SameL n.Hb n'.Hb
  pre : n.al <+: n'.al
  newb : ∀ b o, n'.Hb b = some o → n.Hb b ≠ none ∨ n.H b = none ∨ b ∈ n.al
  newa : ∀ b ∈ n'.al, b ∈ n.al ∨ n.H b = none
  newp : ∀ b ∈ n'.ph, b ∈ n.ph ∨ n.H b = none
  keep : ∀ b o, n.H b = some o → n.Hb b = none → b ∉ n.al → b ∉ n.ph → n'.H b = some o
  dom : ∀ b, n'.H b = none → n.H b = none
theorem Step.refl (n : Now) : Step n n := ⟨SameL.refl _, List.prefix_refl _, fun _ _ h => .inl (by rw [h]; simp), fun _ h => .inl h, fun _ h => .inl h, fun _ _ h _ _ _ => h, fun _ h => h⟩
theorem Step.trans {n n1 n2 : Now} (a : Step n n1) (b : Step n1 n2) : Step n n2 where
  same := a.same.trans b.same
  pre := a.pre.trans b.pre
  newb := fun c o h => by
    rcases b.newb c o h with h | h | h
    · cases e : n1.Hb c with
      | none => exact absurd e h
      | some o' => exact a.newb c o' e
    · exact .inr (.inl (a.dom c h))
    · rcases a.newa c h with h | h
      · exact .inr (.inr h)
      · exact .inr (.inl h)
  newa := fun c h => by
    rcases b.newa c h with h | h
    · exact a.newa c h
    · exact .inr (a.dom c h)
  newp := fun c h => by
    rcases b.newp c h with h | h
    · exact a.newp c h
    · exact .inr (a.dom c h)
  keep := fun c o h h0 h1 h2 => by
    refine b.keep c o (a.keep c o h h0 h1 h2) ?_ (fun z => ?_) (fun z => ?_)
    · cases e : n1.Hb c with
      | none => rfl
      | some o' =>
        rcases a.newb c o' e with z | z | z
        · exact absurd h0 z
        · rw [z] at h; cases h
        · exact absurd z h1
    · rcases a.newa c z with z | z
      · exact h1 z
      · rw [z] at h; cases h
    · rcases a.newp c z with z | z
      · exact h2 z
      · rw [z] at h; cases h
  dom := fun c h => a.dom c (b.dom c h)
theorem Step.rep {K : PySem.W.Frag} {n n' : Now} (s : Step n n') {v : V} {d : D} (h : Rep K n.Hb n.al v d) : Rep K n'.Hb n'.al v d := h.monoL s.same s.pre
theorem Step.reps {K : PySem.W.Frag} {n n' : Now} (s : Step n n') {v : List V} {d : List D} (h : Reps K n.Hb n.al v d) : Reps K n'.Hb n'.al v d := h.monoL s.same s.pre
/-- the slots -/
structure GR (K : PySem.W.Frag) (n : Now) (Γ : Gam) (σ : St) : Prop where
  len : Γ.length = σ.length
  at_ : ∀ (i : Nat) d, Γ[i]? = some (some d) → ∃ v, σ[i]? = some (some v) ∧ Rep K n.Hb n.al v d
theorem GR.step {K : PySem.W.Frag} {n n' : Now} {Γ : Gam} {σ : St} (g : GR K n Γ σ) (s : Step n n') : GR K n' Γ σ :=
  ⟨g.len, fun i d h => let ⟨v, h1, h2⟩ := g.at_ i d h; ⟨v, h1, s.rep h2⟩⟩
theorem GR.set {K : PySem.W.Frag} {n : Now} {Γ : Gam} {σ : St} (g : GR K n Γ σ) {v : V} {d : D} (r : Rep K n.Hb n.al v d) (i : Nat) : GR K n (Γ.set i (some d)) (σ.set i (some v)) := by
  refine ⟨by simp [g.len], fun j e h => ?_⟩
  by_cases hj : i = j
  · subst hj
    by_cases hl : i < Γ.length
    · rw [List.getElem?_set_self hl] at h
      cases h
      exact ⟨v, by rw [List.getElem?_set_self (by rw [← g.len]; exact hl)], r⟩
    · rw [List.getElem?_eq_none (by simp; omega)] at h; cases h
  · rw [List.getElem?_set_ne hj] at h ⊢
    exact g.at_ j e h
/-- the program's errors -/
inductive EK where
  | BadName | DuplicateName | UnknownName | BadCount | BadText | BadSet | BadCell | BadSide | BadLine | BadWish | UnlikeOutcomes | IsFirm | IsSmooth | NotFirm | NothingToUndo
  deriving DecidableEq
def EK.nm : EK → Str
  | .BadName => "BadName"
  | .DuplicateName => "DuplicateName"
  | .UnknownName => "UnknownName"
  | .BadCount => "BadCount"
  | .BadText => "BadText"
  | .BadSet => "BadSet"
  | .BadCell => "BadCell"
  | .BadSide => "BadSide"
  | .BadLine => "BadLine"
  | .BadWish => "BadWish"
  | .UnlikeOutcomes => "UnlikeOutcomes"
  | .IsFirm => "IsFirm"
  | .IsSmooth => "IsSmooth"
  | .NotFirm => "NotFirm"
  | .NothingToUndo => "NothingToUndo"
/-- an exception: its class and its own fields -/
structure Exn where
  k : EK
  fs : List (Str × D)
def ExR (K : PySem.W.Frag) (A n : Now) (cls : Value) (dd : Option Addr) (x : Exn) : Prop :=
  cls = .ref (He.ga K x.k.nm) ∧ ((dd = none ∧ x.fs = []) ∨ ∃ a us, dd = some a ∧ A.H a = none ∧ (n.Hb a = none ∧ a ∉ n.al ∧ a ∉ n.ph) ∧ n.H a = some (.xd us) ∧ (∀ f, us.lookup f = none ↔ x.fs.lookup f = none) ∧ ∀ f v, us.lookup f = some v → ∃ d, x.fs.lookup f = some d ∧ Rep K n.Hb n.al v d)
theorem ExR.anchor {K : PySem.W.Frag} {A A' n : Now} {cls : Value} {dd : Option Addr} {x : Exn} (h : ExR K A' n cls dd x) (s : Step A A') : ExR K A n cls dd x :=
  ⟨h.1, h.2.imp id fun ⟨a, us, h1, h2, h3⟩ => ⟨a, us, h1, s.dom a h2, h3⟩⟩
abbrev DTE := Gam → Mu → (D → Mu → Prop) → (Exn → Mu → Prop) → Prop
abbrev DTT := Gam → Mu → (Bool → Mu → Prop) → (Exn → Mu → Prop) → Prop
abbrev DTA := Gam → Mu → (List D → Mu → Prop) → (Exn → Mu → Prop) → Prop
structure DEnds where
  nx : Gam → Mu → Prop
  rt : D → Mu → Prop
  bk : Gam → Mu → Prop := fun _ _ => False
  ct : Gam → Mu → Prop := fun _ _ => False
  ex : Exn → Gam → Mu → Prop
abbrev DTS := DEnds → Gam → Mu → Prop
abbrev DSp := List D → Mu → (D → Mu → Prop) → (Exn → Mu → Prop) → Prop
section
variable (K : PySem.W.Frag) (W : WX)
/-- how what is wanted of an exception at the deep level reaches the layer's wish -/
def XLink (n : Now) (Γ : Gam) (σ : St) (Ed : Exn → Mu → Prop) : Prop := ∀ n' cls dd x μ', Step n n' → SR0 K n' μ' → ExR K n n' cls dd x → Ed x μ' → W cls dd σ n'.H
def lift (f : DTE) : TE := fun σ H Q => ∃ n Γ μ Qd Ed, n.H = H ∧ SR0 K n μ ∧ GR K n Γ σ ∧ f Γ μ Qd Ed ∧
  (∀ n' v d μ', Step n n' → SR0 K n' μ' → Rep K n'.Hb n'.al v d → Qd d μ' → Q v n'.H) ∧ XLink K W n Γ σ Ed
def liftT (f : DTT) : TT := fun σ H Q => ∃ n Γ μ Qd Ed, n.H = H ∧ SR0 K n μ ∧ GR K n Γ σ ∧ f Γ μ Qd Ed ∧
  (∀ n' b μ', Step n n' → SR0 K n' μ' → Qd b μ' → Q b n'.H) ∧ XLink K W n Γ σ Ed
def liftA (f : DTA) : TA := fun σ H Q => ∃ n Γ μ Qd Ed, n.H = H ∧ SR0 K n μ ∧ GR K n Γ σ ∧ f Γ μ Qd Ed ∧
  (∀ n' v d μ', Step n n' → SR0 K n' μ' → Reps K n'.Hb n'.al v d → Qd d μ' → Q v n'.H) ∧ XLink K W n Γ σ Ed
structure Links (A : Now) (Dd : DEnds) (Dn : Ends) : Prop where
  nx : ∀ n Γ σ μ, Step A n → SR0 K n μ → GR K n Γ σ → Dd.nx Γ μ → Dn.nx σ n.H
  bk : ∀ n Γ σ μ, Step A n → SR0 K n μ → GR K n Γ σ → Dd.bk Γ μ → Dn.bk σ n.H
  ct : ∀ n Γ σ μ, Step A n → SR0 K n μ → GR K n Γ σ → Dd.ct Γ μ → Dn.ct σ n.H
  rt : ∀ n v d μ, Step A n → SR0 K n μ → Rep K n.Hb n.al v d → Dd.rt d μ → Dn.rt v n.H
  ex : ∀ n Γ σ μ cls dd x, Step A n → SR0 K n μ → GR K n Γ σ → ExR K A n cls dd x → Dd.ex x Γ μ → W cls dd σ n.H
def liftS (T : DTS) : TS := fun Dn σ H => ∃ A n Γ μ Dd, n.H = H ∧ Step A n ∧ SR0 K n μ ∧ GR K n Γ σ ∧ T Dd Γ μ ∧ Links K W A Dd Dn
end
abbrev DE (X : Cx) (W : WX) (e : Expr) (f : DTE) : Prop := PE X e (lift X.K W f)
abbrev DT (X : Cx) (W : WX) (e : Expr) (f : DTT) : Prop := PT X e (liftT X.K W f)
abbrev DA (X : Cx) (W : WX) (es : List Expr) (f : DTA) : Prop := PA X es (liftA X.K W f)
abbrev DS (X : Cx) (W : WX) (st : Stmt) (T : DTS) : Prop := PS X st (liftS X.K W T)
abbrev DSs (X : Cx) (W : WX) (st : List Stmt) (T : DTS) : Prop := PSs X st (liftS X.K W T)
section
variable {X : Cx} {e : Expr} {es : List Expr} {st : Stmt} {sts : List Stmt}
theorem PE.imp {t t' : TE} (h : PE X e t) (hi : ∀ σ H Q, t' σ H Q → t σ H Q) : PE X e t' := ⟨fun pins s σ H Q I q => h.run pins s σ H Q I (hi _ _ _ q)⟩
theorem PT.imp {t t' : TT} (h : PT X e t) (hi : ∀ σ H Q, t' σ H Q → t σ H Q) : PT X e t' := ⟨fun pins s σ H Q I q => h.run pins s σ H Q I (hi _ _ _ q)⟩
theorem PA.imp {t t' : TA} (h : PA X es t) (hi : ∀ σ H Q, t' σ H Q → t σ H Q) : PA X es t' := ⟨fun pos pins s σ H Q I q => h.run pos pins s σ H Q I (hi _ _ _ q)⟩
theorem PS.imp {t t' : TS} (h : PS X st t) (hi : ∀ Dn σ H, t' Dn σ H → t Dn σ H) : PS X st t' := ⟨fun pins s σ H Q I q => h.run pins s σ H Q I (hi _ _ _ q)⟩
theorem PSs.imp {t t' : TS} (h : PSs X sts t) (hi : ∀ Dn σ H, t' Dn σ H → t Dn σ H) : PSs X sts t' := ⟨fun pins s σ H Q I q => h.run pins s σ H Q I (hi _ _ _ q)⟩
end
theorem XLink.step {K : PySem.W.Frag} {W : WX} {n n' : Now} {Γ : Gam} {σ : St} {Ed : Exn → Mu → Prop} (x : XLink K W n Γ σ Ed) (s : Step n n') : XLink K W n' Γ σ Ed :=
  fun n2 cls dd y μ s2 h1 h2 h3 => x n2 cls dd y μ (s.trans s2) h1 (h2.anchor s) h3
end DV
namespace DV
open PySem L2
section
variable {K : PySem.W.Frag} {n n' : Now} {μ : Mu} {a p : Addr} {o : HO}
theorem OrcAt.grow {H H' : Hp} {a : Addr} {ph : List Addr} {k : Nat × Bool} (h : OrcAt H a ph k) (ha : H' a = H a) (hp : ∀ b ∈ ph, H' b = H b) : OrcAt H' a ph k := by
  obtain ⟨a0, xs, y, j, h1, h2, hl, hj, hk, hc⟩ := h
  rcases hc with ⟨hv, a1, ys, e1, e2, e3, e4, e5, e6, e7⟩ | ⟨hv, i, e1, e2, e3, e4⟩
  · subst e2
    exact ⟨a0, xs, y, j, ha.trans h1, (hp a0 (by simp)).trans h2, hl, hj, hk, .inl ⟨hv, a1, ys, e1, rfl, e3, e4, (hp a1 (by simp)).trans e5, e6, e7⟩⟩
  · subst e2
    exact ⟨a0, xs, y, j, ha.trans h1, (hp a0 (by simp)).trans h2, hl, hj, hk, .inr ⟨hv, i, e1, rfl, e3, e4⟩⟩
theorem CellAt.grow {c : Cell} (h : CellAt K n a c) (ha : n'.H a = n.H a) (hb : n.Hb a = none → n'.Hb a = none) (s : Same n.Hb n'.Hb) (pr : n.al <+: n'.al) (hph : n'.ph = n.ph) (hp : ∀ b ∈ n.ph, n'.H b = n.H b) : CellAt K n' a c := by
  cases c with
  | gone => trivial
  | lst ds => obtain ⟨h0, vs, h1, h2⟩ := h; exact ⟨hb h0, vs, ha.trans h1, h2.mono s pr⟩
  | dct kvs => obtain ⟨h0, vs, h1, h2, h3⟩ := h; exact ⟨hb h0, vs, ha.trans h1, h2, h3.mono s pr⟩
  | ins C fs => obtain ⟨h0, dx, vs, h1, h2, h3⟩ := h; exact ⟨hb h0, dx, vs, ha.trans h1, h2, h3.mono s pr⟩
  | orc k => obtain ⟨h0, h1⟩ := h; exact ⟨hb h0, by rw [hph]; exact h1.grow ha hp⟩
  | exc dd fs => obtain ⟨h0, he, us, h1, h2, h3⟩ := h; exact ⟨hb h0, he, us, ha.trans h1, h2, fun f v e => let ⟨d, e1, e2⟩ := h3 f v e; ⟨d, e1, e2.mono s pr⟩⟩
theorem SR0.hb (s : SR0 K n μ) (h : n.H p = none) : n.Hb p = none := s.same.free h
theorem SR0.nal (s : SR0 K n μ) (h : n.H p = none) : p ∉ n.al := fun z => s.alh p z h
theorem SR0.nph (s : SR0 K n μ) (h : n.H p = none) : p ∉ n.ph := fun z => (s.phb p z).2.2 h
/-- a new object, fixed for ever -/
def Now.fix (n : Now) (p : Addr) (o : HO) : Now := ⟨upd n.Hb p o, upd n.H p o, n.al, n.ph⟩
/-- a new object beside -/
def Now.more (n : Now) (p : Addr) (o : HO) : Now := ⟨n.Hb, upd n.H p o, n.al, n.ph⟩
/-- a new cell -/
def Now.cell (n : Now) (p : Addr) (o : HO) : Now := ⟨n.Hb, upd n.H p o, n.al ++ [p], n.ph⟩
theorem same_upd {H : Hp} (h : H p = none) : Same H (upd H p o) := fun b u e => by rw [upd_ne (ne_of_none e h)]; exact e
theorem same_upd2 {H H' : Hp} (s : Same H H') : Same (upd H p o) (upd H' p o) := fun b u e => by
  by_cases hb : b = p
  · subst hb; rw [upd_same] at e ⊢; exact e
  · rw [upd_ne hb] at e ⊢; exact s _ _ e
theorem SR0.fix (s : SR0 K n μ) (h : n.H p = none) : SR0 K (n.fix p o) μ := by
  have hb := s.hb h
  refine ⟨same_upd2 s.same, s.len, s.nd, fun i a c e1 e2 => ?_, fun a ha => ?_, s.orc1, fun b hb' => ?_⟩
  · have hne : a ≠ p := fun z => s.nal h (z ▸ List.mem_of_getElem? e1)
    exact (s.cell i a c e1 e2).grow (n' := n.fix p o) (upd_ne hne) (fun z => (upd_ne hne).trans z) (same_upd hb) (List.prefix_refl _) rfl fun b hb' => upd_ne fun z => s.nph h (z ▸ hb')
  · have hne : a ≠ p := fun z => s.nal h (z ▸ ha)
    show upd n.H p o a ≠ none
    rw [upd_ne hne]; exact s.alh a ha
  · have hne : b ≠ p := fun z => s.nph h (z ▸ hb')
    obtain ⟨h1, h2, h3⟩ := s.phb b hb'
    exact ⟨(upd_ne hne).trans h1, h2, by show upd n.H p o b ≠ none; rw [upd_ne hne]; exact h3⟩
theorem Step.fix (s : SR0 K n μ) (h : n.H p = none) : Step n (n.fix p o) where
  same := Same.l (same_upd (s.hb h))
  pre := List.prefix_refl _
  newb := fun b u e => by
    by_cases hb : b = p
    · subst hb; exact .inr (.inl h)
    · exact .inl (nn (o := u) (by rw [← e]; exact (upd_ne hb).symm))
  newa := fun b h => .inl h
  newp := fun b h => .inl h
  keep := fun b u e _ _ _ => by show upd n.H p o b = _; rw [upd_ne (ne_of_none e h)]; exact e
  dom := fun b e => by
    by_cases hb : b = p
    · subst hb; exact h
    · rw [← e]; exact (upd_ne hb).symm
theorem SR0.more (s : SR0 K n μ) (h : n.H p = none) : SR0 K (n.more p o) μ := by
  refine ⟨s.same.trans (same_upd h), s.len, s.nd, fun i a c e1 e2 => ?_, fun a ha => ?_, s.orc1, fun b hb' => ?_⟩
  · have hne : a ≠ p := fun z => s.nal h (z ▸ List.mem_of_getElem? e1)
    exact (s.cell i a c e1 e2).grow (n' := n.more p o) (upd_ne hne) (fun z => z) (Same.refl _) (List.prefix_refl _) rfl fun b hb' => upd_ne fun z => s.nph h (z ▸ hb')
  · have hne : a ≠ p := fun z => s.nal h (z ▸ ha)
    show upd n.H p o a ≠ none
    rw [upd_ne hne]; exact s.alh a ha
  · have hne : b ≠ p := fun z => s.nph h (z ▸ hb')
    obtain ⟨h1, h2, h3⟩ := s.phb b hb'
    exact ⟨h1, h2, by show upd n.H p o b ≠ none; rw [upd_ne hne]; exact h3⟩
theorem Step.more (h : n.H p = none) : Step n (n.more p o) where
  same := SameL.refl _
  pre := List.prefix_refl _
  newb := fun b u e => .inl (nn e)
  newa := fun b h => .inl h
  newp := fun b h => .inl h
  keep := fun b u e _ _ _ => by show upd n.H p o b = _; rw [upd_ne (ne_of_none e h)]; exact e
  dom := fun b e => by
    by_cases hb : b = p
    · subst hb; exact h
    · rw [← e]; exact (upd_ne hb).symm
theorem Step.cell (h : n.H p = none) : Step n (n.cell p o) where
  same := SameL.refl _
  pre := List.prefix_append _ _
  newb := fun b u e => .inl (nn e)
  newa := fun b hb => by
    rcases List.mem_append.mp hb with z | z
    · exact .inl z
    · rw [List.mem_singleton.mp z]; exact .inr h
  newp := fun b h => .inl h
  keep := fun b u e _ _ _ => by show upd n.H p o b = _; rw [upd_ne (ne_of_none e h)]; exact e
  dom := fun b e => by
    by_cases hb : b = p
    · subst hb; exact h
    · rw [← e]; exact (upd_ne hb).symm
theorem SR0.cellN (s : SR0 K n μ) (h : n.H p = none) {c : Cell} (hc : CellAt K (n.cell p o) p c) (ho : ∀ k, c ≠ .orc k) : SR0 K (n.cell p o) (μ ++ [c]) := by
  refine ⟨s.same.trans (same_upd h), by show (n.al ++ [p]).length = _; simp [s.len], ?_, fun i a d e1 e2 => ?_, fun a ha => ?_, fun i j x y e1 e2 => ?_, fun b hb' => ?_⟩
  · show (n.al ++ [p]).Nodup
    rw [List.nodup_append]
    exact ⟨s.nd, by simp, fun a ha b hb z => by rw [List.mem_singleton.mp hb] at z; exact s.nal h (z ▸ ha)⟩
  · have e1' : (n.al ++ [p])[i]? = some a := e1
    by_cases hi : i < n.al.length
    · rw [List.getElem?_append_left hi] at e1'
      rw [List.getElem?_append_left (by rw [← s.len]; exact hi)] at e2
      have hne : a ≠ p := fun z => s.nal h (z ▸ List.mem_of_getElem? e1')
      exact (s.cell i a d e1' e2).grow (n' := n.cell p o) (upd_ne hne) (fun z => z) (Same.refl _) (List.prefix_append _ _) rfl fun b hb' => upd_ne fun z => s.nph h (z ▸ hb')
    · rw [List.getElem?_append_right (by omega)] at e1'
      rw [List.getElem?_append_right (by rw [← s.len]; omega), ← s.len] at e2
      have hz : i - n.al.length = 0 := by
        have := (List.getElem?_eq_some_iff.mp e1').1
        simp at this; omega
      rw [hz] at e1' e2
      simp at e1' e2
      subst e1'; subst e2
      exact hc
  · rcases List.mem_append.mp ha with z | z
    · have hne : a ≠ p := fun y => s.nal h (y ▸ z)
      show upd n.H p o a ≠ none
      rw [upd_ne hne]; exact s.alh a z
    · rw [List.mem_singleton.mp z]
      show upd n.H p o p ≠ none
      rw [upd_same]; simp
  · have q : ∀ (i : Nat) x, (μ ++ [c])[i]? = some (.orc x) → μ[i]? = some (.orc x) := fun i x e => by
      by_cases hi : i < μ.length
      · rw [List.getElem?_append_left hi] at e; exact e
      · rw [List.getElem?_append_right (by omega)] at e
        have hz : i - μ.length = 0 := by
          have := (List.getElem?_eq_some_iff.mp e).1
          simp at this; omega
        rw [hz] at e; simp at e
        exact absurd e (ho x)
    exact s.orc1 i j x y (q i x e1) (q j y e2)
  · have hne : b ≠ p := fun z => s.nph h (z ▸ hb')
    obtain ⟨h1, h2, h3⟩ := s.phb b hb'
    refine ⟨h1, fun z => ?_, by show upd n.H p o b ≠ none; rw [upd_ne hne]; exact h3⟩
    rcases List.mem_append.mp z with z | z
    · exact h2 z
    · exact hne (List.mem_singleton.mp z)
theorem nodup_get {l : List Addr} (h : l.Nodup) {i j : Nat} {a : Addr} (h1 : l[i]? = some a) (h2 : l[j]? = some a) : i = j := by
  obtain ⟨p1, q1⟩ := List.getElem?_eq_some_iff.mp h1
  obtain ⟨p2, q2⟩ := List.getElem?_eq_some_iff.mp h2
  exact (List.getElem_inj h).mp (q1.trans q2.symm)
/-- a cell is written -/
theorem SR0.write (s : SR0 K n μ) {i : Nat} (hi : n.al[i]? = some a) (hb : n.Hb a = none) {c : Cell} (hc : CellAt K (n.more a o) a c) (ho : ∀ k, c ≠ .orc k) : SR0 K (n.more a o) (μ.set i c) := by
  refine ⟨fun b u e => ?_, by rw [List.length_set]; exact s.len, s.nd, fun j b d e1 e2 => ?_, fun b ha => ?_, fun j k x y e1 e2 => ?_, fun b hb' => ?_⟩
  · show upd n.H a o b = _
    rw [upd_ne (ne_of_none e hb)]; exact s.same _ _ e
  · have e1' : n.al[j]? = some b := e1
    by_cases hj : i = j
    · subst hj
      rw [hi] at e1'; cases e1'
      have hl : i < μ.length := by rw [← s.len]; exact (List.getElem?_eq_some_iff.mp hi).1
      rw [List.getElem?_set_self hl] at e2; cases e2
      exact hc
    · rw [List.getElem?_set_ne hj] at e2
      have hne : b ≠ a := fun z => hj (nodup_get s.nd hi (z ▸ e1'))
      exact (s.cell j b d e1' e2).grow (n' := n.more a o) (upd_ne hne) (fun z => z) (Same.refl _) (List.prefix_refl _) rfl fun b hb' => upd_ne fun z => (s.phb b hb').2.1 (z ▸ List.mem_of_getElem? hi)
  · show upd n.H a o b ≠ none
    by_cases hne : b = a
    · subst hne; rw [upd_same]; simp
    · rw [upd_ne hne]; exact s.alh b ha
  · have q : ∀ (j : Nat) x, (μ.set i c)[j]? = some (.orc x) → μ[j]? = some (.orc x) := fun j x e => by
      by_cases hj : i = j
      · subst hj
        have hl : i < μ.length := by rw [← s.len]; exact (List.getElem?_eq_some_iff.mp hi).1
        rw [List.getElem?_set_self hl] at e; cases e
        exact absurd rfl (ho x)
      · rw [List.getElem?_set_ne hj] at e; exact e
    exact s.orc1 j k x y (q j x e1) (q k y e2)
  · obtain ⟨h1, h2, h3⟩ := s.phb b hb'
    have hne : b ≠ a := fun z => h2 (z ▸ List.mem_of_getElem? hi)
    exact ⟨h1, h2, by show upd n.H a o b ≠ none; rw [upd_ne hne]; exact h3⟩
theorem Step.write {i : Nat} (hi : n.al[i]? = some a) : Step n (n.more a o) where
  same := SameL.refl _
  pre := List.prefix_refl _
  newb := fun b u e => .inl (nn e)
  newa := fun b h => .inl h
  newp := fun b h => .inl h
  keep := fun b u e _ h1 _ => by
    show upd n.H a o b = _
    rw [upd_ne (show b ≠ a from fun z => h1 (z ▸ List.mem_of_getElem? hi))]; exact e
  dom := fun b e => by
    by_cases hb : b = a
    · subst hb; rw [show (n.more b o).H b = some o from upd_same] at e; cases e
    · rw [← e]; exact (upd_ne hb).symm
end
/-! ### what is seen of a value: fixed, or the cell as it stands -/
def lk (μ : Mu) : D → D
  | .ref l => match μ[l]? with
    | some (.lst xs) => .lst xs
    | some (.dct k) => .dct k
    | some (.ins C fs) => .ins C fs
    | _ => .ref l
  | d => d
section
variable {K : PySem.W.Frag} {n : Now} {μ : Mu} {v : V} {d : D}
theorem lk_ref {l : Nat} {e : D} (h : lk μ (.ref l) = e) (hne : e ≠ .ref l) : (∃ xs, μ[l]? = some (.lst xs) ∧ e = .lst xs) ∨ (∃ xs, μ[l]? = some (.dct xs) ∧ e = .dct xs) ∨ ∃ C fs, μ[l]? = some (.ins C fs) ∧ e = .ins C fs := by
  unfold lk at h
  dsimp only at h
  split at h
  · exact .inl ⟨_, by assumption, h.symm⟩
  · exact .inr (.inl ⟨_, by assumption, h.symm⟩)
  · exact .inr (.inr ⟨_, _, by assumption, h.symm⟩)
  · exact absurd h.symm hne
theorem see_lst {ds : List D} (s : SR0 K n μ) (r : Rep K n.Hb n.al v d) (h : lk μ d = .lst ds) : ∃ a vs, v = .ref a ∧ n.H a = some (.lst vs) ∧ Reps K n.Hb n.al vs ds := by
  cases r with
  | ref hl =>
    rcases lk_ref h (by simp) with ⟨xs, e, q⟩ | ⟨xs, e, q⟩ | ⟨C, fs, e, q⟩
    · cases q
      obtain ⟨_, vs, h1, h2⟩ := s.cell _ _ _ hl e
      exact ⟨_, vs, rfl, h1, h2⟩
    · cases q
    · cases q
  | lst hq hr => cases h; exact ⟨_, _, rfl, s.same _ _ hq, hr⟩
  | _ => cases h
theorem see_tup {ds : List D} (s : SR0 K n μ) (r : Rep K n.Hb n.al v d) (h : lk μ d = .tup ds) : ∃ a vs, v = .ref a ∧ n.H a = some (.tup vs) ∧ n.Hb a = some (.tup vs) ∧ Reps K n.Hb n.al vs ds := by
  cases r with
  | ref hl => rcases lk_ref h (by simp) with ⟨xs, e, q⟩ | ⟨xs, e, q⟩ | ⟨C, fs, e, q⟩ <;> cases q
  | tup hq hr => cases h; exact ⟨_, _, rfl, s.same _ _ hq, hq, hr⟩
  | _ => cases h
theorem see_dct {kvs : List (Key × D)} (s : SR0 K n μ) (r : Rep K n.Hb n.al v d) (h : lk μ d = .dct kvs) : ∃ a us, v = .ref a ∧ Rd n.H a (.dK us) ∧ kvs.map (·.1) = us.map (·.1) ∧ Reps K n.Hb n.al (us.map (·.2)) (kvs.map (·.2)) := by
  cases r with
  | ref hl =>
    rcases lk_ref h (by simp) with ⟨xs, e, q⟩ | ⟨xs, e, q⟩ | ⟨C, fs, e, q⟩
    · cases q
    · cases q
      obtain ⟨_, vs, h1, h2, h3⟩ := s.cell _ _ _ hl e
      exact ⟨_, vs, rfl, .inl h1, h2, h3⟩
    · cases q
  | dct hq hk hr =>
    cases h
    subst hk
    have hl := hr.length
    rw [List.length_map] at hl
    rw [List.map_fst_zip (by rw [List.length_map]; omega), List.map_snd_zip (by rw [List.length_map]; omega)]
    exact ⟨_, _, rfl, same_rd s.same hq, rfl, hr⟩
  | _ => cases h
theorem see_ins {C : Addr} {fs : List (Str × D)} (s : SR0 K n μ) (r : Rep K n.Hb n.al v d) (h : lk μ d = .ins C fs) : ∃ a dx us, v = .ref a ∧ n.H a = some (.ins C dx us) ∧ fs.map (·.1) = us.map (·.1) ∧ Reps K n.Hb n.al (us.map (·.2)) (fs.map (·.2)) := by
  cases r with
  | ref hl =>
    rcases lk_ref h (by simp) with ⟨xs, e, q⟩ | ⟨xs, e, q⟩ | ⟨C, fs, e, q⟩
    · cases q
    · cases q
    · cases q
      obtain ⟨_, dx, vs, h1, h2, h3⟩ := s.cell _ _ _ hl e
      exact ⟨_, dx, vs, rfl, h1, h2, h3⟩
  | ins hq hk hr =>
    cases h
    subst hk
    have hl := hr.length
    rw [List.length_map] at hl
    rw [List.map_fst_zip (by rw [List.length_map]; omega), List.map_snd_zip (by rw [List.length_map]; omega)]
    exact ⟨_, _, _, rfl, s.same _ _ hq, rfl, hr⟩
  | _ => cases h
end
end DV
namespace DV
open PySem L2
def dVar (i : Nat) : DTE := fun Γ μ Q _ => match Γ[i]? with
  | some (some d) => Q d μ
  | _ => False
def dC (d : D) : DTE := fun _ μ Q _ => Q d μ
def LV (K : PySem.W.Frag) (n : Now) (Qd : D → Mu → Prop) (Q : VK) : Prop := ∀ n' v d μ', Step n n' → SR0 K n' μ' → Rep K n'.Hb n'.al v d → Qd d μ' → Q v n'.H
theorem LV.now {K : PySem.W.Frag} {n : Now} {Qd : D → Mu → Prop} {Q : VK} (l : LV K n Qd Q) {μ : Mu} (s : SR0 K n μ) {v : V} {d : D} (r : Rep K n.Hb n.al v d) (q : Qd d μ) : Q v n.H := l n v d μ (Step.refl n) s r q
theorem LV.step {K : PySem.W.Frag} {n n' : Now} {Qd : D → Mu → Prop} {Q : VK} (l : LV K n Qd Q) (s : Step n n') : LV K n' Qd Q := fun n2 v d μ s2 => l n2 v d μ (s.trans s2)
/-- a new object, fixed -/
theorem LV.fixed {K : PySem.W.Frag} {n : Now} {Qd : D → Mu → Prop} {Q : VK} (l : LV K n Qd Q) {μ : Mu} (s : SR0 K n μ) {p : Addr} {o : HO} {d : D} (hp : n.H p = none) (r : Rep K (upd n.Hb p o) n.al (.ref p) d) (q : Qd d μ) : Q (.ref p) (upd n.H p o) :=
  l (n.fix p o) _ d μ (Step.fix s hp) (s.fix hp) r q
abbrev G2 := D → D → Mu → (D → Mu → Prop) → Prop
abbrev G1 := D → Mu → (D → Mu → Prop) → Prop
abbrev GN := List D → Mu → (D → Mu → Prop) → Prop
def Op2 (K : PySem.W.Frag) (r : R2) (g : G2) : Prop := ∀ n μ x y dx dy Qd (Q : VK), SR0 K n μ → Rep K n.Hb n.al x dx → Rep K n.Hb n.al y dy → g dx dy μ Qd → LV K n Qd Q → r x y n.H Q
def OpN (K : PySem.W.Frag) (r : List V → Hp → VK → Prop) (g : GN) : Prop := ∀ n μ xs ds Qd (Q : VK), SR0 K n μ → Reps K n.Hb n.al xs ds → g ds μ Qd → LV K n Qd Q → r xs n.H Q
def dBin (g : G2) (fa fb : DTE) : DTE := fun Γ μ Q E => fa Γ μ (fun x μ1 => fb Γ μ1 (fun y μ2 => g x y μ2 Q) E) E
def dUn (g : G1) (fa : DTE) : DTE := fun Γ μ Q E => fa Γ μ (fun x μ1 => g x μ1 Q) E
def dNil : DTA := fun _ μ Q _ => Q [] μ
def dCons (fa : DTE) (fr : DTA) : DTA := fun Γ μ Q E => fa Γ μ (fun x μ1 => fr Γ μ1 (fun xs μ2 => Q (x :: xs) μ2) E) E
def dCall (g : GN) (fa : DTA) : DTE := fun Γ μ Q E => fa Γ μ (fun xs μ1 => g xs μ1 Q) E
def dTest (fa : DTE) : DTT := fun Γ μ Q E => fa Γ μ (fun x μ1 => match x with | .bl b => Q b μ1 | _ => False) E
def dOp (sp : DSp) (fa : DTA) : DTE := fun Γ μ Q E => fa Γ μ (fun xs μ1 => sp xs μ1 Q E) E
section
variable {X : Cx} {W : WX} {e a b c : Expr} {es : List Expr} {pos : Pos} {fa fb fc : DTE} {ft : DTT} {fr : DTA}
theorem de_var {i : Nat} (h : PE X e (tVar i)) : DE X W e (dVar i) := PE.imp h fun σ H Q ⟨n, Γ, μ, Qd, Ed, hH, sr, gr, h, hq, hx⟩ => by
  subst hH
  unfold dVar at h
  split at h
  · rename_i d e
    obtain ⟨v, h1, h2⟩ := gr.at_ i d e
    exact ⟨v, h1, hq n v d μ (Step.refl n) sr h2 h⟩
  · exact h.elim
theorem de_c {v : V} {d : D} (r : ∀ K Hb al, Rep K Hb al v d) (h : PE X e (tC v)) : DE X W e (dC d) := PE.imp h fun σ H Q ⟨n, Γ, μ, Qd, Ed, hH, sr, gr, h, hq, hx⟩ => by
  subst hH
  exact hq n v d μ (Step.refl n) sr (r _ _ _) h
theorem de_int {i : Int} (h : PE X e (tC (.int i))) : DE X W e (dC (.int i)) := de_c (fun _ _ _ => .int i) h
theorem de_bl {i : Bool} (h : PE X e (tC (.bl i))) : DE X W e (dC (.bl i)) := de_c (fun _ _ _ => .bl i) h
theorem de_str {i : Str} (h : PE X e (tC (.str i))) : DE X W e (dC (.str i)) := de_c (fun _ _ _ => .str i) h
/-- from a part's reading to what follows -/
theorem lift_go {K : PySem.W.Frag} {n : Now} {Γ : Gam} {μ : Mu} {σ : St} {Qd : D → Mu → Prop} {Ed : Exn → Mu → Prop} {Q : VK} (sr : SR0 K n μ) (gr : GR K n Γ σ) (h : fa Γ μ Qd Ed) (hq : LV K n Qd Q) (hx : XLink K W n Γ σ Ed) : lift K W fa σ n.H Q :=
  ⟨n, Γ, μ, Qd, Ed, rfl, sr, gr, h, hq, hx⟩
theorem liftA_go {K : PySem.W.Frag} {n : Now} {Γ : Gam} {μ : Mu} {σ : St} {Qd : List D → Mu → Prop} {Ed : Exn → Mu → Prop} {Q : List V → Hp → Prop} (sr : SR0 K n μ) (gr : GR K n Γ σ) (h : fr Γ μ Qd Ed)
    (hq : ∀ n' v d μ', Step n n' → SR0 K n' μ' → Reps K n'.Hb n'.al v d → Qd d μ' → Q v n'.H) (hx : XLink K W n Γ σ Ed) : liftA K W fr σ n.H Q :=
  ⟨n, Γ, μ, Qd, Ed, rfl, sr, gr, h, hq, hx⟩
theorem liftT_go {K : PySem.W.Frag} {n : Now} {Γ : Gam} {μ : Mu} {σ : St} {Qd : Bool → Mu → Prop} {Ed : Exn → Mu → Prop} {Q : Bool → Hp → Prop} (sr : SR0 K n μ) (gr : GR K n Γ σ) (h : ft Γ μ Qd Ed)
    (hq : ∀ n' b μ', Step n n' → SR0 K n' μ' → Qd b μ' → Q b n'.H) (hx : XLink K W n Γ σ Ed) : liftT K W ft σ n.H Q :=
  ⟨n, Γ, μ, Qd, Ed, rfl, sr, gr, h, hq, hx⟩
theorem two {K : PySem.W.Frag} {r : R2} {g : G2} (hg : Op2 K r g) (σ : St) (H : Hp) (Q : VK) (h : lift K W (dBin g fa fb) σ H Q) : tOp r (lift K W fa) (lift K W fb) σ H Q := by
  obtain ⟨n, Γ, μ, Qd, Ed, hH, sr, gr, h, hq, hx⟩ := h
  subst hH
  refine lift_go sr gr h (fun n1 x dx μ1 s1 r1 p1 q1 => lift_go r1 (gr.step s1) q1 (fun n2 y dy μ2 s2 r2 p2 q2 => ?_) (hx.step s1)) hx
  exact hg n2 μ2 x y dx dy Qd Q r2 (s2.rep p1) p2 q2 (LV.step hq (s1.trans s2))
theorem de_op {op : Operator} {r : R2} {g : G2} (ho : OpR X (binaryOp op) r) (hg : Op2 X.K r g) (ha : DE X W a fa) (hb : DE X W b fb) : DE X W (.BinOp a op b pos) (dBin g fa fb) := PE.imp (pe_op ho ha hb) (two hg)
theorem de_cmp {op : CmpOp} {r : R2} {g : G2} (ho : OpR X (compareOp op) r) (hg : Op2 X.K r g) (ha : DE X W a fa) (hb : DE X W b fb) (hm : behindInMarks op b = false := by rfl) : DE X W (.Compare a [op] [b] pos) (dBin g fa fb) := PE.imp (pe_cmpR ho ha hb hm) (two hg)
theorem de_ix {r : R2} {g : G2} (ho : IxR X r) (hg : Op2 X.K r g) (ha : DE X W a fa) (hb : DE X W b fb) (hs : PlainIx b := by exact fun _ _ => rfl) : DE X W (.Subscript a b pos) (dBin g fa fb) := PE.imp (pe_ix ho ha hb hs) (two hg)
/-! arguments -/
theorem da_nil : DA X W [] dNil := PA.imp pa_nil fun σ H Q ⟨n, Γ, μ, Qd, Ed, hH, sr, gr, h, hq, hx⟩ => by
  subst hH
  exact hq n [] [] μ (Step.refl n) sr .nil h
theorem da_cons (ha : DE X W e fa) (hr : DA X W es fr) (hs : starEach (e :: es) X.env = (false, eval e X.env) :: starEach es X.env := by rfl) : DA X W (e :: es) (dCons fa fr) := PA.imp (pa_cons ha hr hs) fun σ H Q ⟨n, Γ, μ, Qd, Ed, hH, sr, gr, h, hq, hx⟩ => by
  subst hH
  refine lift_go sr gr h (fun n1 x dx μ1 s1 r1 p1 q1 => liftA_go r1 (gr.step s1) q1 (fun n2 y dy μ2 s2 r2 p2 q2 => ?_) (hx.step s1)) hx
  exact hq n2 _ _ μ2 (s1.trans s2) r2 (.cons (s2.rep p1) p2) q2
/-! displays -/
def gLst : GN := fun ds μ Q => ds.length ≤ sizeLine ∧ Q (.lst ds) μ
def gTup : GN := fun ds μ Q => ds.length ≤ sizeLine ∧ Q (.tup ds) μ
/-- a list that will change: a cell -/
def gLstM : GN := fun ds μ Q => ds.length ≤ sizeLine ∧ Q (.ref μ.length) (μ ++ [.lst ds])
theorem nN {K : PySem.W.Frag} {r : List V → Hp → VK → Prop} {g : GN} (hg : OpN K r g) (σ : St) (H : Hp) (Q : VK) (h : lift K W (dCall g fr) σ H Q) : liftA K W fr σ H fun xs H1 => r xs H1 Q := by
  obtain ⟨n, Γ, μ, Qd, Ed, hH, sr, gr, h, hq, hx⟩ := h
  subst hH
  exact liftA_go sr gr h (fun n1 x dx μ1 s1 r1 p1 q1 => hg n1 μ1 x dx Qd Q r1 p1 q1 (LV.step hq s1)) hx
theorem rep_lst {K : PySem.W.Frag} {Hb : Hp} {al : List Addr} {p : Addr} {vs : List V} {ds : List D} (hp : Hb p = none) (r : Reps K Hb al vs ds) : Rep K (upd Hb p (.lst vs)) al (.ref p) (.lst ds) := .lst upd_same (r.mono (same_upd hp) (List.prefix_refl _))
theorem rep_tup {K : PySem.W.Frag} {Hb : Hp} {al : List Addr} {p : Addr} {vs : List V} {ds : List D} (hp : Hb p = none) (r : Reps K Hb al vs ds) : Rep K (upd Hb p (.tup vs)) al (.ref p) (.tup ds) := .tup upd_same (r.mono (same_upd hp) (List.prefix_refl _))
/-- a new list, as data or as a cell -/
theorem new_lst {K : PySem.W.Frag} {n : Now} {Qd : D → Mu → Prop} {Q : VK} (l : LV K n Qd Q) {μ : Mu} (s : SR0 K n μ) {p : Addr} {vs : List V} {ds : List D} (hp : n.H p = none) (r : Reps K n.Hb n.al vs ds) (q : Qd (.lst ds) μ) : Q (.ref p) (upd n.H p (.lst vs)) :=
  l.fixed s hp (rep_lst (s.hb hp) r) q
theorem new_tup {K : PySem.W.Frag} {n : Now} {Qd : D → Mu → Prop} {Q : VK} (l : LV K n Qd Q) {μ : Mu} (s : SR0 K n μ) {p : Addr} {vs : List V} {ds : List D} (hp : n.H p = none) (r : Reps K n.Hb n.al vs ds) (q : Qd (.tup ds) μ) : Q (.ref p) (upd n.H p (.tup vs)) :=
  l.fixed s hp (rep_tup (s.hb hp) r) q
theorem new_cell {K : PySem.W.Frag} {n : Now} {Qd : D → Mu → Prop} {Q : VK} (l : LV K n Qd Q) {μ : Mu} (s : SR0 K n μ) {p : Addr} {vs : List V} {ds : List D} (hp : n.H p = none) (r : Reps K n.Hb n.al vs ds) (q : Qd (.ref μ.length) (μ ++ [.lst ds])) : Q (.ref p) (upd n.H p (.lst vs)) := by
  refine l (n.cell p (.lst vs)) _ (.ref μ.length) (μ ++ [.lst ds]) (Step.cell hp) (s.cellN (c := .lst ds) hp ⟨s.hb hp, vs, upd_same, r.mono (Same.refl _) (List.prefix_append _ _)⟩ (fun k z => by cases z)) (.ref ?_) q
  show (n.al ++ [p])[μ.length]? = some p
  rw [← s.len]
  simp
theorem opn_lst {K : PySem.W.Frag} : OpN K (fun xs H Q => xs.length ≤ sizeLine ∧ ∀ p, H p = none → Q (.ref p) (upd H p (.lst xs))) gLst := fun n μ xs ds Qd Q s r h l => ⟨r.length ▸ h.1, fun p hp => new_lst l s hp r h.2⟩
theorem opn_lstM {K : PySem.W.Frag} : OpN K (fun xs H Q => xs.length ≤ sizeLine ∧ ∀ p, H p = none → Q (.ref p) (upd H p (.lst xs))) gLstM := fun n μ xs ds Qd Q s r h l => ⟨r.length ▸ h.1, fun p hp => new_cell l s hp r h.2⟩
theorem opn_tup {K : PySem.W.Frag} : OpN K (fun xs H Q => xs.length ≤ sizeLine ∧ ∀ p, H p = none → Q (.ref p) (upd H p (.tup xs))) gTup := fun n μ xs ds Qd Q s r h l => ⟨r.length ▸ h.1, fun p hp => new_tup l s hp r h.2⟩
theorem de_lst (h : DA X W es fr) : DE X W (.List es pos) (dCall gLst fr) := PE.imp (pe_lst h) fun σ H Q q => by
  have z := nN (opn_lst (K := X.K)) σ H Q q
  exact z
theorem de_lstM (h : DA X W es fr) : DE X W (.List es pos) (dCall gLstM fr) := PE.imp (pe_lst h) fun σ H Q q => by
  have z := nN (opn_lstM (K := X.K)) σ H Q q
  exact z
theorem de_tup {x1} (h : DA X W es fr) : DE X W (.Tuple es x1 pos) (dCall gTup fr) := PE.imp (pe_tup h) fun σ H Q q => by
  have z := nN (opn_tup (K := X.K)) σ H Q q
  exact z
/-! builtins by name -/
section
variable {x : Str} {id : String} {T : String} {r : List V → Hp → VK → Prop} {g : GN} {p : Pos}
theorem de_callB (hc : CallR X (.builtin id) r) (hg : OpN X.K r g) (hgl : Gl X x) (hm : X.mg x = none) (hv : bootBuiltins x = some (.builtin id)) (ha : DA X W (e :: es) fr) (hn : x ≠ "__name__" := by decide) (hdb : (x == ("__debug__" : Str)) = false := by decide)
    (he : starEach (e :: es) X.env = (false, eval e X.env) :: starEach es X.env := by rfl) (hpl : (backTo pos (starEach es X.env)).any (·.1) = false := by rfl) : DE X W (.Call (.Name x p) (e :: es) [] pos) (dCall g fr) :=
  PE.imp (pe_callB hc hgl hm hv ha hn hdb he hpl) fun σ H Q q => nN hg σ H Q q
theorem de_callTy (hc : CallR X (.type T) r) (hg : OpN X.K r g) (hgl : Gl X x) (hm : X.mg x = none) (hv : bootBuiltins x = some (.type T)) (ha : DA X W (e :: es) fr) (hn : x ≠ "__name__" := by decide) (hdb : (x == ("__debug__" : Str)) = false := by decide)
    (he : starEach (e :: es) X.env = (false, eval e X.env) :: starEach es X.env := by rfl) (hpl : (backTo pos (starEach es X.env)).any (·.1) = false := by rfl) : DE X W (.Call (.Name x p) (e :: es) [] pos) (dCall g fr) :=
  PE.imp (pe_callTy hc hgl hm hv ha hn hdb he hpl) fun σ H Q q => nN hg σ H Q q
end
/-! tests -/
theorem dt_val (h : DE X W e fa) (he : ∀ whole, isTrue e X.env whole = (do let v ← whole; standAt e.pos; holding [v] (truthy v)) := by intro _; rfl) : DT X W e (dTest fa) := PT.imp (pt_val h he) fun σ H Q ⟨n, Γ, μ, Qd, Ed, hH, sr, gr, h, hq, hx⟩ => by
  subst hH
  refine lift_go sr gr h (fun n1 x dx μ1 s1 r1 p1 q1 => ?_) hx
  cases p1 with
  | bl b => exact ⟨b, rfl, hq n1 b μ1 s1 r1 q1⟩
  | _ => exact q1.elim
def dAndT (ta tb : DTT) : DTT := fun Γ μ Q E => ta Γ μ (fun c μ1 => cond c (tb Γ μ1 Q E) (Q false μ1)) E
def dOrT (ta tb : DTT) : DTT := fun Γ μ Q E => ta Γ μ (fun c μ1 => cond c (Q true μ1) (tb Γ μ1 Q E)) E
def dNotT (ta : DTT) : DTT := fun Γ μ Q E => ta Γ μ (fun c μ1 => Q (!c) μ1) E
/-- and, or of values all but the last of which are True or False -/
def dAnd (ta tb : DTE) : DTE := fun Γ μ Q E => ta Γ μ (fun x μ1 => match x with | .bl c => cond c (tb Γ μ1 Q E) (Q (.bl false) μ1) | _ => False) E
def dOr (ta tb : DTE) : DTE := fun Γ μ Q E => ta Γ μ (fun x μ1 => match x with | .bl c => cond c (Q (.bl true) μ1) (tb Γ μ1 Q E) | _ => False) E
def dNot (ta : DTE) : DTE := fun Γ μ Q E => ta Γ μ (fun x μ1 => match x with | .bl c => Q (.bl (!c)) μ1 | _ => False) E
def dIfE (t : DTT) (ta tb : DTE) : DTE := fun Γ μ Q E => t Γ μ (fun c μ1 => cond c (ta Γ μ1 Q E) (tb Γ μ1 Q E)) E
theorem de_one {op} (h : DE X W a fa) : DE X W (.BoolOp op [a] pos) fa := pe_one h
theorem de_and {rest : List Expr} (ha : DE X W a fa) (hb : DE X W (.BoolOp .And (b :: rest) pos) fb) : DE X W (.BoolOp .And (a :: b :: rest) pos) (dAnd fa fb) := PE.imp (pe_and ha hb) fun σ H Q ⟨n, Γ, μ, Qd, Ed, hH, sr, gr, h, hq, hx⟩ => by
  subst hH
  refine lift_go sr gr h (fun n1 x dx μ1 s1 r1 p1 q1 => ?_) hx
  cases p1 with
  | bl c =>
    refine ⟨c, rfl, ?_⟩
    cases c with
    | true => exact iteT (lift_go r1 (gr.step s1) q1 (LV.step hq s1) (hx.step s1))
    | false => exact iteF (hq n1 _ _ μ1 s1 r1 (.bl false) q1)
  | _ => exact q1.elim
theorem de_or {rest : List Expr} (ha : DE X W a fa) (hb : DE X W (.BoolOp .Or (b :: rest) pos) fb) : DE X W (.BoolOp .Or (a :: b :: rest) pos) (dOr fa fb) := PE.imp (pe_or ha hb) fun σ H Q ⟨n, Γ, μ, Qd, Ed, hH, sr, gr, h, hq, hx⟩ => by
  subst hH
  refine lift_go sr gr h (fun n1 x dx μ1 s1 r1 p1 q1 => ?_) hx
  cases p1 with
  | bl c =>
    refine ⟨c, rfl, ?_⟩
    cases c with
    | true => exact iteT (hq n1 _ _ μ1 s1 r1 (.bl true) q1)
    | false => exact iteF (lift_go r1 (gr.step s1) q1 (LV.step hq s1) (hx.step s1))
  | _ => exact q1.elim
theorem pw_and' {rest : List Expr} {ta tb : DTT} (ha : DT X W a ta) (hb : PW X (.BoolOp .And (b :: rest) pos) (liftT X.K W tb)) : PW X (.BoolOp .And (a :: b :: rest) pos) (liftT X.K W (dAndT ta tb)) := by
  have z := pw_and (pos := pos) ha hb
  refine ⟨fun whole pins s σ H Q I h => z.run whole pins s σ H Q I ?_⟩
  obtain ⟨n, Γ, μ, Qd, Ed, hH, sr, gr, h, hq, hx⟩ := h
  subst hH
  refine liftT_go sr gr h (fun n1 x μ1 s1 r1 q1 => ?_) hx
  cases x with
  | true => exact iteT (liftT_go r1 (gr.step s1) q1 (fun n2 b μ2 s2 => hq n2 b μ2 (s1.trans s2)) (hx.step s1))
  | false => exact iteF (hq n1 _ μ1 s1 r1 q1)
theorem pw_or' {rest : List Expr} {ta tb : DTT} (ha : DT X W a ta) (hb : PW X (.BoolOp .Or (b :: rest) pos) (liftT X.K W tb)) : PW X (.BoolOp .Or (a :: b :: rest) pos) (liftT X.K W (dOrT ta tb)) := by
  have z := pw_or (pos := pos) ha hb
  refine ⟨fun whole pins s σ H Q I h => z.run whole pins s σ H Q I ?_⟩
  obtain ⟨n, Γ, μ, Qd, Ed, hH, sr, gr, h, hq, hx⟩ := h
  subst hH
  refine liftT_go sr gr h (fun n1 x μ1 s1 r1 q1 => ?_) hx
  cases x with
  | true => exact iteT (hq n1 _ μ1 s1 r1 q1)
  | false => exact iteF (liftT_go r1 (gr.step s1) q1 (fun n2 b μ2 s2 => hq n2 b μ2 (s1.trans s2)) (hx.step s1))
theorem dt_not {ta : DTT} (ha : DT X W a ta) : DT X W (.UnaryOp .Not a pos) (dNotT ta) := PT.imp (pt_not ha) fun σ H Q ⟨n, Γ, μ, Qd, Ed, hH, sr, gr, h, hq, hx⟩ => by
  subst hH
  exact liftT_go sr gr h (fun n1 x μ1 s1 r1 q1 => hq n1 _ μ1 s1 r1 q1) hx
end
end DV
namespace DV
open PySem L2
/-! ### what has no reference in it -/
mutual
def D.pu : D → Bool
  | .ref _ => false
  | .lst xs => D.puL xs
  | .tup xs => D.puL xs
  | .dct kvs => D.puK kvs
  | .ins _ fs => D.puF fs
  | _ => true
def D.puL : List D → Bool
  | [] => true
  | x :: xs => x.pu && D.puL xs
def D.puK : List (Key × D) → Bool
  | [] => true
  | (_, x) :: xs => x.pu && D.puK xs
def D.puF : List (Str × D) → Bool
  | [] => true
  | (_, x) :: xs => x.pu && D.puF xs
end
theorem puL_iff : ∀ {xs : List D}, D.puL xs = true ↔ ∀ x ∈ xs, x.pu = true
  | [] => by simp [D.puL]
  | x :: xs => by simp [D.puL, puL_iff (xs := xs)]
theorem puK_eq : ∀ (xs : List (Key × D)), D.puK xs = D.puL (xs.map (·.2))
  | [] => rfl
  | (k, x) :: xs => by simp [D.puK, D.puL, puK_eq xs]
theorem puF_eq : ∀ (xs : List (Str × D)), D.puF xs = D.puL (xs.map (·.2))
  | [] => rfl
  | (k, x) :: xs => by simp [D.puF, D.puL, puF_eq xs]
def Cell.pu : Cell → Bool
  | .lst xs => D.puL xs
  | .dct kvs => D.puK kvs
  | .ins _ fs => D.puF fs
  | .exc _ fs => D.puF fs
  | _ => true
theorem puF_mem {fs : List (Str × D)} {f : Str} {d : D} (hp : D.puF fs = true) (h : fs.lookup f = some d) : d.pu = true := by
  induction fs with
  | nil => cases h
  | cons p l ih =>
    obtain ⟨g, y⟩ := p
    simp only [D.puF, Bool.and_eq_true] at hp
    rw [List.lookup_cons] at h
    split at h
    · cases h; exact hp.1
    · exact ih hp.2 h
section
variable {K : PySem.W.Frag} {Hb : Hp} {al al' : List Addr}
mutual
theorem Rep.any : ∀ {v : V} {d : D}, Rep K Hb al v d → d.pu = true → Rep K Hb al' v d
  | _, _, .non, _ => .non
  | _, _, .bl b, _ => .bl b
  | _, _, .int i, _ => .int i
  | _, _, .str x, _ => .str x
  | _, _, .ref h, q => by simp [D.pu] at q
  | _, _, .cls C, _ => .cls C
  | _, _, .scr h, _ => .scr h
  | _, _, .lst h r, q => .lst h (Reps.any r (by simpa [D.pu] using q))
  | _, _, .tup h r, q => .tup h (Reps.any r (by simpa [D.pu] using q))
  | _, _, .dct (us := us) (ks := ks) (ds := ds) h e r, q => .dct h e (Reps.any r (by
      have hl := r.length
      rw [List.length_map] at hl
      rw [D.pu, puK_eq, List.map_snd_zip (by rw [e, List.length_map]; omega)] at q
      exact q))
  | _, _, .ins (us := us) (ks := ks) (ds := ds) h e r, q => .ins h e (Reps.any r (by
      have hl := r.length
      rw [List.length_map] at hl
      rw [D.pu, puF_eq, List.map_snd_zip (by rw [e, List.length_map]; omega)] at q
      exact q))
theorem Reps.any : ∀ {vs : List V} {ds : List D}, Reps K Hb al vs ds → D.puL ds = true → Reps K Hb al' vs ds
  | _, _, .nil, _ => .nil
  | _, _, .cons h r, q => by
    simp [D.puL] at q
    exact .cons (Rep.any h q.1) (Reps.any r q.2)
end
mutual
/-- data that stood over a shorter list of cells -/
theorem Rep.back {K' : PySem.W.Frag} {Hb' : Hp} (p : al <+: al') : ∀ {v : V} {d : D} {v' : V}, Rep K Hb al v d → Rep K' Hb' al' v' d → Rep K' Hb' al v' d
  | _, _, _, .non, h => by cases h; exact .non
  | _, _, _, .bl b, h => by cases h; exact .bl b
  | _, _, _, .int b, h => by cases h; exact .int b
  | _, _, _, .str b, h => by cases h; exact .str b
  | _, _, _, .cls b, h => by cases h; exact .cls b
  | _, _, _, .scr b, h => by
    cases h with
    | scr h2 => exact .scr h2
  | _, _, _, .ref h1, h => by
    cases h with
    | ref h2 =>
      have := pre_get p h1
      rw [h2] at this; cases this
      exact .ref h1
  | _, _, _, .lst h1 r, h => by
    cases h with
    | lst h2 r2 => exact .lst h2 (Reps.back p r r2)
  | _, _, _, .tup h1 r, h => by
    cases h with
    | tup h2 r2 => exact .tup h2 (Reps.back p r r2)
  | _, _, _, .dct (us := us) (ks := ks) (ds := ds) h1 e1 r, h => by
    generalize hq : ks.zip ds = zs at h
    cases h with
    | dct h2 e2 r2 =>
      rename_i us2 ks2 ds2
      have l1 := r.length
      have l2 := r2.length
      rw [List.length_map] at l1 l2
      have e : ds = ds2 := by
        have z := congrArg (List.map Prod.snd) hq
        rw [List.map_snd_zip (by rw [e1, List.length_map]; omega), List.map_snd_zip (by rw [e2, List.length_map]; omega)] at z
        exact z
      exact .dct h2 e2 (Reps.back p r (e ▸ r2) |> fun q => e ▸ q)
  | _, _, _, .ins (us := us) (ks := ks) (ds := ds) h1 e1 r, h => by
    generalize hq : ks.zip ds = zs at h
    cases h with
    | ins h2 e2 r2 =>
      rename_i us2 ks2 ds2
      have l1 := r.length
      have l2 := r2.length
      rw [List.length_map] at l1 l2
      have e : ds = ds2 := by
        have z := congrArg (List.map Prod.snd) hq
        rw [List.map_snd_zip (by rw [e1, List.length_map]; omega), List.map_snd_zip (by rw [e2, List.length_map]; omega)] at z
        exact z
      exact .ins h2 e2 (Reps.back p r (e ▸ r2) |> fun q => e ▸ q)
theorem Reps.back {K' : PySem.W.Frag} {Hb' : Hp} (p : al <+: al') : ∀ {v : List V} {d : List D} {v' : List V}, Reps K Hb al v d → Reps K' Hb' al' v' d → Reps K' Hb' al v' d
  | _, _, _, .nil, h => by cases h; exact .nil
  | _, _, _, .cons h r, q => by
    cases q with
    | cons h2 r2 => exact .cons (Rep.back p h h2) (Reps.back p r r2)
end
end
/-! ### statements -/
def dNext : DTS := fun D Γ μ => D.nx Γ μ
def dSeq (t u : DTS) : DTS := fun D Γ μ => t { D with nx := u D } Γ μ
def dDrop (f : DTE) : DTS := fun D Γ μ => f Γ μ (fun _ μ1 => D.nx Γ μ1) (fun x μ1 => D.ex x Γ μ1)
def dRet (f : DTE) : DTS := fun D Γ μ => f Γ μ D.rt (fun x μ1 => D.ex x Γ μ1)
def dRetN : DTS := fun D Γ μ => D.rt .non μ
def dIf (t : DTT) (a b : DTS) : DTS := fun D Γ μ => t Γ μ (fun c μ1 => cond c (a D Γ μ1) (b D Γ μ1)) (fun x μ1 => D.ex x Γ μ1)
def dBreak : DTS := fun D Γ μ => D.bk Γ μ
def dCont : DTS := fun D Γ μ => D.ct Γ μ
abbrev DTG := D → Gam → Mu → (Gam → Mu → Prop) → (Exn → Mu → Prop) → Prop
def dName (i : Nat) : DTG := fun d Γ μ Q _ => Q (Γ.set i (some d)) μ
def dAsg (f : DTE) (g : DTG) : DTS := fun D Γ μ => f Γ μ (fun d μ1 => g d Γ μ1 D.nx (fun x μ2 => D.ex x Γ μ2)) (fun x μ1 => D.ex x Γ μ1)
section
variable (K : PySem.W.Frag) (W : WX)
def liftG (g : DTG) : TG := fun v σ H Q => ∃ n d Γ μ Qd Ed, n.H = H ∧ SR0 K n μ ∧ GR K n Γ σ ∧ Rep K n.Hb n.al v d ∧ g d Γ μ Qd Ed ∧
  (∀ n' Γ' σ' μ', Step n n' → SR0 K n' μ' → GR K n' Γ' σ' → Qd Γ' μ' → Q σ' n'.H) ∧ XLink K W n Γ σ Ed
end
abbrev DG (X : Cx) (W : WX) (tg : Expr) (g : DTG) : Prop := PG X tg (liftG X.K W g)
section
variable {X : Cx} {W : WX} {e c tg : Expr} {st : Stmt} {rest sa sb : List Stmt} {pos : Pos} {f : DTE} {t : DTT} {T U : DTS} {g : DTG}
theorem PG.imp {g g' : TG} (h : PG X tg g) (hi : ∀ v σ H Q, g' v σ H Q → g v σ H Q) : PG X tg g' :=
  ⟨fun u v pins s σ H Q I r q => h.run u v pins s σ H Q I r (hi _ _ _ _ q)⟩
theorem liftS_go {K : PySem.W.Frag} {A n : Now} {Γ : Gam} {μ : Mu} {σ : St} {Dd : DEnds} {Dn : Ends} (sa : Step A n) (sr : SR0 K n μ) (gr : GR K n Γ σ) (h : T Dd Γ μ) (l : Links K W A Dd Dn) : liftS K W T Dn σ n.H :=
  ⟨A, n, Γ, μ, Dd, rfl, sa, sr, gr, h, l⟩
theorem Links.x {K : PySem.W.Frag} {A n : Now} {Γ : Gam} {σ : St} {Dd : DEnds} {Dn : Ends} (l : Links K W A Dd Dn) (s : Step A n) (gr : GR K n Γ σ) : XLink K W n Γ σ (fun x μ1 => Dd.ex x Γ μ1) :=
  fun n' cls dd x μ' s' r' e q => l.ex n' Γ σ μ' cls dd x (s.trans s') r' (gr.step s') (e.anchor s) q
theorem dss_nil : DSs X W [] dNext := PSs.imp pss_nil fun Dn σ H ⟨A, n, Γ, μ, Dd, hH, sa, sr, gr, h, l⟩ => by
  subst hH; exact l.nx n Γ σ μ sa sr gr h
theorem dss_cons (h1 : DS X W st T) (h2 : DSs X W rest U) : DSs X W (st :: rest) (dSeq T U) := PSs.imp (pss_cons h1 h2) fun Dn σ H ⟨A, n, Γ, μ, Dd, hH, sa, sr, gr, h, l⟩ => by
  subst hH
  refine liftS_go sa sr gr h ⟨fun n' Γ' σ' μ' s' r' g' q => liftS_go s' r' g' q l, l.bk, l.ct, l.rt, l.ex⟩
theorem dss_one (h1 : DS X W st T) : DSs X W [st] T := pss_one h1
theorem ds_drop (h : DE X W e f) (hs : swapsWith e none pos.line X.env = pure false := by rfl) : DS X W (.Expr e pos) (dDrop f) := PS.imp (ps_expr h hs) fun Dn σ H ⟨A, n, Γ, μ, Dd, hH, sa, sr, gr, h, l⟩ => by
  subst hH
  exact lift_go sr gr h (fun n' v d μ' s' r' _ q => l.nx n' Γ σ μ' (sa.trans s') r' (gr.step s') q) (l.x sa gr)
theorem ds_ret (h : DE X W e f) : DS X W (.Return (some e) pos) (dRet f) := PS.imp (ps_ret h) fun Dn σ H ⟨A, n, Γ, μ, Dd, hH, sa, sr, gr, h, l⟩ => by
  subst hH
  exact lift_go sr gr h (fun n' v d μ' s' r' p q => l.rt n' v d μ' (sa.trans s') r' p q) (l.x sa gr)
theorem ds_if (hc : DT X W c t) (ha : DSs X W sa T) (hb : DSs X W sb U) : DS X W (.If c sa sb pos) (dIf t T U) := PS.imp (ps_if hc ha hb) fun Dn σ H ⟨A, n, Γ, μ, Dd, hH, sa, sr, gr, h, l⟩ => by
  subst hH
  refine liftT_go sr gr h (fun n' b μ' s' r' q => ?_) (l.x sa gr)
  cases b with
  | true => exact iteT (liftS_go (sa.trans s') r' (gr.step s') q l)
  | false => exact iteF (liftS_go (sa.trans s') r' (gr.step s') q l)
theorem dg_name {i : Nat} (h : PG X tg (gName i)) : DG X W tg (dName i) := PG.imp h fun v σ H Q ⟨n, d, Γ, μ, Qd, Ed, hH, sr, gr, rp, h, hq, hx⟩ => by
  subst hH
  exact hq n (Γ.set i (some d)) (σ.set i (some v)) μ (Step.refl n) sr (gr.set rp i) h
theorem ds_asg (he : DE X W e f) (hg : DG X W tg g) (hs : swapsWithSole [tg] e pos.line X.env = pure false := by rfl) (hw : swappedStores [tg] e X.env = pure none := by rfl)
    (h1 : (assignEach [tg] X.env).map (·.2) = [assign tg X.env] := by rfl) : DS X W (.Assign [tg] e pos) (dAsg f g) := PS.imp (ps_asg he hg hs hw h1) fun Dn σ H ⟨A, n, Γ, μ, Dd, hH, sa, sr, gr, h, l⟩ => by
  subst hH
  refine lift_go sr gr h (fun n' v d μ' s' r' p q => ?_) (l.x sa gr)
  exact ⟨n', d, Γ, μ', _, _, rfl, r', gr.step s', p, q, fun n2 Γ2 σ2 μ2 s2 r2 g2 q2 => l.nx n2 Γ2 σ2 μ2 ((sa.trans s').trans s2) r2 g2 q2, l.x (sa.trans s') (gr.step s')⟩
theorem ds_set {i : Nat} {x : Str} {pos' : Pos} (he : DE X W e f) (hN : X.N.Nodup) (hi : X.N[i]? = some x := by rfl) (hx : Loc X.env.scope x := by first | exact Or.inl rfl | exact Or.inr rfl) (hs : swapsWith e (some (.Name x pos')) pos.line X.env = pure false := by rfl) (hf : X.fn x = true ∨ X.env.scope.names.lookup x = some .local := by first | exact .inl rfl | exact .inr rfl | assumption) :
    DS X W (.Assign [.Name x pos'] e pos) (dAsg f (dName i)) := PS.imp (ps_set (i := i) (pos := pos) (pos' := pos') hN hi hx he hs hf) fun Dn σ H ⟨A, n, Γ, μ, Dd, hH, sa, sr, gr, h, l⟩ => by
  subst hH
  refine lift_go sr gr h (fun n' v d μ' s' r' p q => ?_) (l.x sa gr)
  exact l.nx n' (Γ.set i (some d)) (σ.set i (some v)) μ' (sa.trans s') r' ((gr.step s').set p i) q
end
end DV
namespace DV
open PySem L2
def spOf (K : PySem.W.Frag) (S : DSp) : Sp := fun vs H Q E => ∃ n ds μ Qd Ed, n.H = H ∧ SR0 K n μ ∧ Reps K n.Hb n.al vs ds ∧ S ds μ Qd Ed ∧ LV K n Qd Q ∧
  (∀ n' cls dd x μ', Step n n' → SR0 K n' μ' → ExR K n n' cls dd x → Ed x μ' → E cls dd n'.H)
section
variable {X : Cx} {W : WX} {k : Nat} {f : Addr} {fd : FuncData} {ps : List Str} {S : DSp} {x : Str} {p pos : Pos} {e : Expr} {es : List Expr} {fr : DTA}
theorem call_go {K : PySem.W.Frag} (σ : St) (H : Hp) (Q : VK) (h : lift K W (dOp S fr) σ H Q) : liftA K W fr σ H fun vs H1 => spOf K S vs H1 Q (WE W σ) := by
  obtain ⟨n, Γ, μ, Qd, Ed, hH, sr, gr, h, hq, hx⟩ := h
  subst hH
  exact liftA_go sr gr h (fun n1 x dx μ1 s1 r1 p1 q1 => ⟨n1, dx, μ1, Qd, Ed, rfl, r1, p1, q1, LV.step hq s1, hx.step s1⟩) hx
theorem de_fn (F : FnOk X.prog X.w X.K X.mg X.base (L2.CX X.prog X.w) k f fd ps (spOf X.K S)) (hr : Room k X.A) (hg : Gl X x) (hm : X.mg x = some (.ref f)) (hk : PySem.W.keepIn X.K (.ref f) = true) (hb : Binds X.K fd ps []) (tk : Takes X W)
    (ha : DA X W (e :: es) fr) (hdb : (x == ("__debug__" : Str)) = false := by decide) (he : starEach (e :: es) X.env = (false, eval e X.env) :: starEach es X.env := by rfl) (hpl : (backTo pos (starEach es X.env)).any (·.1) = false := by rfl) :
    DE X W (.Call (.Name x p) (e :: es) [] pos) (dOp S fr) := PE.imp (pe_callS (E := WE W) F hr hg hm hk hb (fun σ => passAt tk σ) ha hdb he hpl) (fun σ H Q h => call_go σ H Q h)
end
/-! ### a def's end -/
def Upd (μ μ1 : Mu) : Prop := μ1.length = μ.length ∧ ∀ (i : Nat) c, μ1[i]? = some c → μ[i]? = some c ∨ c.pu = true
theorem Upd.refl (μ : Mu) : Upd μ μ := ⟨rfl, fun _ _ h => .inl h⟩
theorem Upd.set {μ μ1 : Mu} (u : Upd μ μ1) {l : Nat} {c : Cell} (hc : c.pu = true) : Upd μ (μ1.set l c) := by
  refine ⟨by rw [List.length_set]; exact u.1, fun i d h => ?_⟩
  by_cases hi : l = i
  · subst hi
    by_cases hl : l < μ1.length
    · rw [List.getElem?_set_self hl] at h; cases h; exact .inr hc
    · rw [List.getElem?_eq_none (by simp; omega)] at h; cases h
  · rw [List.getElem?_set_ne hi] at h; exact u.2 i d h
mutual
/-- a tree over cells beyond m, with the cells taken as they stand -/
inductive Fz (m : Nat) (μ : Mu) : D → D → Prop
  | pu {d} : d.pu = true → Fz m μ d d
  | cell {l ds es} : m ≤ l → μ[l]? = some (.lst ds) → FzL m μ ds es → Fz m μ (.ref l) (.lst es)
  | dcell {l kvs es} : m ≤ l → μ[l]? = some (.dct kvs) → FzL m μ (kvs.map (·.2)) es → Fz m μ (.ref l) (.dct ((kvs.map (·.1)).zip es))
  | icell {l C fs es} : m ≤ l → μ[l]? = some (.ins C fs) → FzL m μ (fs.map (·.2)) es → Fz m μ (.ref l) (.ins C ((fs.map (·.1)).zip es))
  | lst {ds es} : FzL m μ ds es → Fz m μ (.lst ds) (.lst es)
  | tup {ds es} : FzL m μ ds es → Fz m μ (.tup ds) (.tup es)
inductive FzL (m : Nat) (μ : Mu) : List D → List D → Prop
  | nil : FzL m μ [] []
  | cons {d e ds es} : Fz m μ d e → FzL m μ ds es → FzL m μ (d :: ds) (e :: es)
end
def FnEnd (μ : Mu) (d : D) (μ' : Mu) (Q : D → Mu → Prop) : Prop := Q d μ' ∨ ∃ μ1 loc, μ' = μ1 ++ loc ∧ Upd μ μ1 ∧
  ((d.pu = true ∧ Q d μ1) ∨ (∃ l, d = .ref l ∧ l < μ1.length ∧ Q d μ1) ∨
   (∃ l ds, d = .ref (μ1.length + l) ∧ loc[l]? = some (.lst ds) ∧ D.puL ds = true ∧ Q (.ref μ1.length) (μ1 ++ [.lst ds])) ∨
   (∃ l ds, d = .ref (μ1.length + l) ∧ loc[l]? = some (.lst ds) ∧ D.puL ds = true ∧ Q (.lst ds) μ1) ∨
   (∃ l ds, d = .ref (μ1.length + l) ∧ loc[l]? = some (.dct ds) ∧ D.puK ds = true ∧ Q (.ref μ1.length) (μ1 ++ [.dct ds])) ∨
   (∃ l ds, d = .ref (μ1.length + l) ∧ loc[l]? = some (.dct ds) ∧ D.puK ds = true ∧ Q (.dct ds) μ1) ∨
   (∃ e, Fz μ1.length (μ1 ++ loc) d e ∧ Q e μ1))
def FnExc (μ : Mu) (x : Exn) (μ' : Mu) (E : Exn → Mu → Prop) : Prop := ∃ μ1 loc, μ' = μ1 ++ loc ∧ Upd μ μ1 ∧ D.puF x.fs = true ∧ E x μ1
def dFn (μ : Mu) (Q : D → Mu → Prop) (E : Exn → Mu → Prop) : DEnds := { nx := fun _ μ' => FnEnd μ .non μ' Q, rt := fun d μ' => FnEnd μ d μ' Q, ex := fun x _ μ' => FnExc μ x μ' E }
theorem FnEnd.pure {μ μ1 loc : Mu} {d : D} {Q : D → Mu → Prop} (u : Upd μ μ1) (h : d.pu = true) (q : Q d μ1) : FnEnd μ d (μ1 ++ loc) Q := .inr ⟨μ1, loc, rfl, u, .inl ⟨h, q⟩⟩
theorem FnEnd.pure0 {μ μ1 : Mu} {d : D} {Q : D → Mu → Prop} (u : Upd μ μ1) (h : d.pu = true) (q : Q d μ1) : FnEnd μ d μ1 Q := .inr ⟨μ1, [], by simp, u, .inl ⟨h, q⟩⟩
theorem FnEnd.melt {μ μ1 loc : Mu} {d e : D} {Q : D → Mu → Prop} (u : Upd μ μ1) (h : Fz μ1.length (μ1 ++ loc) d e) (q : Q e μ1) : FnEnd μ d (μ1 ++ loc) Q := .inr ⟨μ1, loc, rfl, u, .inr (.inr (.inr (.inr (.inr (.inr ⟨e, h, q⟩)))))⟩
theorem FnEnd.here {μ μ' : Mu} {d : D} {Q : D → Mu → Prop} (q : Q d μ') : FnEnd μ d μ' Q := .inl q
section
variable {K : PySem.W.Frag} {A n : Now} {μ μ1 loc : Mu}
theorem exc_back {K' : PySem.W.Frag} {Hb Hb' : Hp} {al al' : List Addr} {us us0 : List (Str × V)} {fs : List (Str × D)} (p : al <+: al') (h5 : ∀ f, us0.lookup f = none ↔ fs.lookup f = none)
    (h4 : ∀ f v, us0.lookup f = some v → ∃ d, fs.lookup f = some d ∧ Rep K Hb al v d) (h3 : ∀ f v, us.lookup f = some v → ∃ d, fs.lookup f = some d ∧ Rep K' Hb' al' v d) :
    ∀ f v, us.lookup f = some v → ∃ d, fs.lookup f = some d ∧ Rep K' Hb' al v d := fun f v e => by
  obtain ⟨d, e1, e2⟩ := h3 f v e
  cases e0 : us0.lookup f with
  | none => rw [(h5 f).mp e0] at e1; cases e1
  | some v0 =>
    obtain ⟨d', e3, e4⟩ := h4 f v0 e0
    rw [e1] at e3; cases e3
    exact ⟨d, e1, Rep.back p e4 e2⟩
/-- the cells of the callee are let go -/
theorem trunc (s0 : SR0 K A μ) (st : Step A n) (sr : SR0 K n (μ1 ++ loc)) (u : Upd μ μ1) : SR0 K ⟨n.Hb, n.H, A.al, n.ph⟩ μ1 ∧ Step A ⟨n.Hb, n.H, A.al, n.ph⟩ := by
  have hl : A.al.length = μ1.length := s0.len.trans u.1.symm
  have hsub : ∀ a ∈ A.al, a ∈ n.al := fun a h => st.pre.subset h
  refine ⟨⟨sr.same, hl, s0.nd, fun i a c e1 e2 => ?_, fun a ha => sr.alh a (hsub a ha), fun i j x y e1 e2 => ?_, fun b hb => ?_⟩, ⟨st.same, List.prefix_refl _, st.newb, fun b h => .inl h, st.newp, st.keep, st.dom⟩⟩
  · have e1' : A.al[i]? = some a := e1
    have hi : i < μ1.length := by rw [← hl]; exact (List.getElem?_eq_some_iff.mp e1').1
    have e2' : (μ1 ++ loc)[i]? = some c := by rw [List.getElem?_append_left hi]; exact e2
    have q := sr.cell i a c (pre_get st.pre e1') e2'
    rcases u.2 i c e2 with h | h
    · have q0 := s0.cell i a c e1' h
      cases c with
      | gone => trivial
      | lst ds => obtain ⟨h0, vs, h1, h2⟩ := q; obtain ⟨_, vs0, _, h3⟩ := q0; exact ⟨h0, vs, h1, Reps.back st.pre h3 h2⟩
      | dct ds => obtain ⟨h0, vs, h1, hk, h2⟩ := q; obtain ⟨_, vs0, _, _, h3⟩ := q0; exact ⟨h0, vs, h1, hk, Reps.back st.pre h3 h2⟩
      | ins C ds => obtain ⟨h0, dx, vs, h1, hk, h2⟩ := q; obtain ⟨_, _, vs0, _, _, h3⟩ := q0; exact ⟨h0, dx, vs, h1, hk, Reps.back st.pre h3 h2⟩
      | orc k => exact q
      | exc dd fs => obtain ⟨h0, he, us, h1, h2, h3⟩ := q; obtain ⟨_, _, us0, _, h5, h4⟩ := q0; exact ⟨h0, he, us, h1, h2, exc_back st.pre h5 h4 h3⟩
    · cases c with
      | gone => trivial
      | lst ds => obtain ⟨h0, vs, h1, h2⟩ := q; exact ⟨h0, vs, h1, h2.any h⟩
      | dct ds => obtain ⟨h0, vs, h1, hk, h2⟩ := q; exact ⟨h0, vs, h1, hk, h2.any (by rw [← puK_eq]; exact h)⟩
      | ins C ds => obtain ⟨h0, dx, vs, h1, hk, h2⟩ := q; exact ⟨h0, dx, vs, h1, hk, h2.any (by rw [← puF_eq]; exact h)⟩
      | orc k => exact q
      | exc dd fs => obtain ⟨h0, he, us, h1, h2, h3⟩ := q; exact ⟨h0, he, us, h1, h2, fun f v e => let ⟨d, e1, e2⟩ := h3 f v e; ⟨d, e1, e2.any (puF_mem h e1)⟩⟩
  · have q : ∀ (i : Nat) x, μ1[i]? = some (.orc x) → (μ1 ++ loc)[i]? = some (.orc x) := fun i x e => by
      rw [List.getElem?_append_left (List.getElem?_eq_some_iff.mp e).1]; exact e
    exact sr.orc1 i j x y (q i x e1) (q j y e2)
  · obtain ⟨h1, h2, h3⟩ := sr.phb b hb
    exact ⟨h1, fun z => h2 (hsub b z), h3⟩
theorem new_at (s0 : SR0 K A μ) (st : Step A n) (sr : SR0 K n (μ1 ++ loc)) (u : Upd μ μ1) {l : Nat} {a : Addr} (h : n.al[μ1.length + l]? = some a) : a ∉ A.al ∧ A.H a = none := by
  have h1 : a ∉ A.al := fun z => by
    obtain ⟨i, hi, e⟩ := List.getElem_of_mem z
    have e1 : A.al[i]? = some a := by rw [List.getElem?_eq_getElem hi, e]
    have := nodup_get sr.nd (pre_get st.pre e1) h
    have := s0.len
    have := u.1
    omega
  refine ⟨h1, ?_⟩
  rcases st.newa a (List.mem_of_getElem? h) with z | z
  · exact absurd z h1
  · exact z
/-- one of them becomes data -/
theorem frozen (s0 : SR0 K A μ) (st : Step A n) (sr : SR0 K n (μ1 ++ loc)) (u : Upd μ μ1) {l : Nat} {a : Addr} {o : HO} (h : n.al[μ1.length + l]? = some a) (ho : n.H a = some o) (hb : n.Hb a = none) :
    SR0 K ⟨upd n.Hb a o, n.H, A.al, n.ph⟩ μ1 ∧ Step A ⟨upd n.Hb a o, n.H, A.al, n.ph⟩ := by
  obtain ⟨t1, t2⟩ := trunc s0 st sr u
  obtain ⟨na, nH⟩ := new_at s0 st sr u h
  have su : Same n.Hb (upd n.Hb a o) := same_upd hb
  refine ⟨⟨fun b v e => ?_, t1.len, t1.nd, fun i b c e1 e2 => ?_, t1.alh, t1.orc1, fun b hb' => ?_⟩, ⟨t2.same.trans (Same.l su), t2.pre, fun b v e => ?_, t2.newa, t2.newp, t2.keep, t2.dom⟩⟩
  · by_cases hba : b = a
    · subst hba
      have e' : upd n.Hb b o b = some v := e
      rw [upd_same] at e'; cases e'; exact ho
    · have e' : upd n.Hb a o b = some v := e
      rw [upd_ne hba] at e'; exact sr.same _ _ e'
  · have hne : b ≠ a := fun z => na (z ▸ List.mem_of_getElem? e1)
    exact (t1.cell i b c e1 e2).grow (n' := ⟨upd n.Hb a o, n.H, A.al, n.ph⟩) rfl (fun z => (upd_ne hne).trans z) su (List.prefix_refl _) rfl fun _ _ => rfl
  · obtain ⟨h1, h2, h3⟩ := t1.phb b hb'
    have hne : b ≠ a := fun z => by
      subst z
      exact (sr.phb b hb').2.1 (List.mem_of_getElem? h)
    exact ⟨(upd_ne hne).trans h1, h2, h3⟩
  · by_cases hba : b = a
    · subst hba; exact .inr (.inl nH)
    · have e' : upd n.Hb a o b = some v := e
      rw [upd_ne hba] at e'; exact t2.newb b v e'
/-- one of them is handed on -/
theorem handed (s0 : SR0 K A μ) (st : Step A n) (sr : SR0 K n (μ1 ++ loc)) (u : Upd μ μ1) {l : Nat} {a : Addr} {c : Cell} (h : n.al[μ1.length + l]? = some a) (hc : loc[l]? = some c) (hp : c.pu = true) (ho : ∀ k, c ≠ .orc k) :
    SR0 K ⟨n.Hb, n.H, A.al ++ [a], n.ph⟩ (μ1 ++ [c]) ∧ Step A ⟨n.Hb, n.H, A.al ++ [a], n.ph⟩ := by
  obtain ⟨t1, t2⟩ := trunc s0 st sr u
  obtain ⟨na, nH⟩ := new_at s0 st sr u h
  have hl : A.al.length = μ1.length := s0.len.trans u.1.symm
  refine ⟨⟨t1.same, by simp [hl], ?_, fun i b d e1 e2 => ?_, fun b hb => ?_, fun i j x y e1 e2 => ?_, fun b hb' => ?_⟩, ⟨t2.same, List.prefix_append _ _, t2.newb, fun b hb => ?_, t2.newp, t2.keep, t2.dom⟩⟩
  · show (A.al ++ [a]).Nodup
    rw [List.nodup_append]
    exact ⟨s0.nd, by simp, fun b hb c hc z => by rw [List.mem_singleton.mp hc] at z; exact na (z ▸ hb)⟩
  · have e1' : (A.al ++ [a])[i]? = some b := e1
    by_cases hi : i < A.al.length
    · rw [List.getElem?_append_left hi] at e1'
      rw [List.getElem?_append_left (by rw [← hl]; exact hi)] at e2
      exact (t1.cell i b d e1' e2).grow (n' := ⟨n.Hb, n.H, A.al ++ [a], n.ph⟩) rfl (fun z => z) (Same.refl _) (List.prefix_append _ _) rfl fun _ _ => rfl
    · rw [List.getElem?_append_right (by omega)] at e1'
      rw [List.getElem?_append_right (by rw [← hl]; omega), ← hl] at e2
      have hz : i - A.al.length = 0 := by
        have := (List.getElem?_eq_some_iff.mp e1').1
        simp at this; omega
      rw [hz] at e1' e2
      simp at e1' e2
      subst e1'; subst e2
      have q := sr.cell (μ1.length + l) a c h (by rw [List.getElem?_append_right (by omega)]; simpa using hc)
      cases c with
      | gone => trivial
      | lst ds => obtain ⟨h0, vs, h1, h2⟩ := q; exact ⟨h0, vs, h1, h2.any hp⟩
      | dct ds => obtain ⟨h0, vs, h1, hk, h2⟩ := q; exact ⟨h0, vs, h1, hk, h2.any (by rw [← puK_eq]; exact hp)⟩
      | ins C ds => obtain ⟨h0, dx, vs, h1, hk, h2⟩ := q; exact ⟨h0, dx, vs, h1, hk, h2.any (by rw [← puF_eq]; exact hp)⟩
      | orc k => exact absurd rfl (ho k)
      | exc dd fs => obtain ⟨h0, he, us, h1, h2, h3⟩ := q; exact ⟨h0, he, us, h1, h2, fun f v e => let ⟨d, e1, e2⟩ := h3 f v e; ⟨d, e1, e2.any (puF_mem hp e1)⟩⟩
  · rcases List.mem_append.mp hb with z | z
    · exact t1.alh b z
    · rw [List.mem_singleton.mp z]; exact sr.alh a (List.mem_of_getElem? h)
  · have q : ∀ (i : Nat) x, (μ1 ++ [c])[i]? = some (.orc x) → μ1[i]? = some (.orc x) := fun i x e => by
      by_cases hi : i < μ1.length
      · rw [List.getElem?_append_left hi] at e; exact e
      · rw [List.getElem?_append_right (by omega)] at e
        have hz : i - μ1.length = 0 := by
          have := (List.getElem?_eq_some_iff.mp e).1
          simp at this; omega
        rw [hz] at e; simp at e
        exact absurd e (ho x)
    exact t1.orc1 i j x y (q i x e1) (q j y e2)
  · obtain ⟨h1, h2, h3⟩ := t1.phb b hb'
    refine ⟨h1, fun z => ?_, h3⟩
    rcases List.mem_append.mp z with z | z
    · exact h2 z
    · rw [List.mem_singleton.mp z] at hb'
      exact (sr.phb a hb').2.1 (List.mem_of_getElem? h)
  · rcases List.mem_append.mp hb with z | z
    · exact .inl z
    · rw [List.mem_singleton.mp z]; exact .inr nH
/-- all of the callee's cells become data -/
def meltH (n : Now) (m : Nat) : Hp := fun a => if a ∈ n.al.drop m then n.H a else n.Hb a
theorem drop_idx {l : List Addr} {m : Nat} {a : Addr} (h : a ∈ l.drop m) : ∃ j, l[m + j]? = some a := by
  obtain ⟨j, hj, e⟩ := List.getElem_of_mem h
  refine ⟨j, ?_⟩
  rw [← List.getElem?_drop, List.getElem?_eq_getElem hj, e]
theorem melted (s0 : SR0 K A μ) (st : Step A n) (sr : SR0 K n (μ1 ++ loc)) (u : Upd μ μ1) :
    SR0 K ⟨meltH n μ1.length, n.H, A.al, n.ph⟩ μ1 ∧ Step A ⟨meltH n μ1.length, n.H, A.al, n.ph⟩ ∧ Same n.Hb (meltH n μ1.length) := by
  obtain ⟨t1, t2⟩ := trunc s0 st sr u
  have hl : A.al.length = μ1.length := s0.len.trans u.1.symm
  have nb : ∀ a, a ∈ n.al.drop μ1.length → a ∉ A.al ∧ A.H a = none := fun a h => by
    obtain ⟨j, e⟩ := drop_idx h
    exact new_at s0 st sr u e
  have su : Same n.Hb (meltH n μ1.length) := fun a o e => by
    unfold meltH
    split
    · exact sr.same _ _ e
    · exact e
  refine ⟨⟨fun b v e => ?_, t1.len, t1.nd, fun i b c e1 e2 => ?_, t1.alh, t1.orc1, fun b hb' => ?_⟩, ⟨t2.same.trans (Same.l su), t2.pre, fun b v e => ?_, t2.newa, t2.newp, t2.keep, t2.dom⟩, su⟩
  · have e' : meltH n μ1.length b = some v := e
    unfold meltH at e'
    split at e'
    · exact e'
    · exact sr.same _ _ e'
  · have hne : b ∉ n.al.drop μ1.length := fun z => (nb b z).1 (List.mem_of_getElem? e1)
    exact (t1.cell i b c e1 e2).grow (n' := ⟨meltH n μ1.length, n.H, A.al, n.ph⟩) rfl (fun z => by show meltH n μ1.length b = none; unfold meltH; rw [if_neg hne]; exact z) su (List.prefix_refl _) rfl fun _ _ => rfl
  · obtain ⟨h1, h2, h3⟩ := t1.phb b hb'
    have hne : b ∉ n.al.drop μ1.length := fun z => (sr.phb b hb').2.1 (List.mem_of_mem_drop z)
    exact ⟨by show meltH n μ1.length b = none; unfold meltH; rw [if_neg hne]; exact h1, h2, h3⟩
  · have e' : meltH n μ1.length b = some v := e
    by_cases hm : b ∈ n.al.drop μ1.length
    · exact .inr (.inl (nb b hm).2)
    · unfold meltH at e'
      rw [if_neg hm] at e'
      exact t2.newb b v e'
theorem at_melt {m l : Nat} {a : Addr} {o : HO} (h : n.al[l]? = some a) (hm : m ≤ l) (ho : n.H a = some o) : meltH n m a = some o := by
  unfold meltH
  rw [if_pos]
  · exact ho
  · have : (n.al.drop m)[l - m]? = some a := by rw [List.getElem?_drop, show m + (l - m) = l from by omega]; exact h
    exact List.mem_of_getElem? this
mutual
theorem melt_rep {m : Nat} {al : List Addr} (sr : SR0 K n μ) (su : Same n.Hb (meltH n m)) : ∀ {d e : D}, Fz m μ d e → ∀ {v : V}, Rep K n.Hb n.al v d → Rep K (meltH n m) al v e
  | _, _, .pu h, _, r => (r.any h).mono su (List.prefix_refl _)
  | _, _, .cell hm e f, _, .ref hl => by
    obtain ⟨_, vs, h1, h2⟩ := sr.cell _ _ _ hl e
    exact .lst (at_melt hl hm h1) (melt_reps sr su f h2)
  | _, _, .dcell (kvs := kvs) hm e f, _, .ref hl => by
    obtain ⟨_, vs, h1, h2, h3⟩ := sr.cell _ _ _ hl e
    exact .dct (.inl (at_melt hl hm h1)) h2 (melt_reps sr su f h3)
  | _, _, .icell (fs := fs) hm e f, _, .ref hl => by
    obtain ⟨_, dx, vs, h1, h2, h3⟩ := sr.cell _ _ _ hl e
    exact .ins (at_melt hl hm h1) h2 (melt_reps sr su f h3)
  | _, _, .lst f, _, .lst h r => .lst (su _ _ h) (melt_reps sr su f r)
  | _, _, .tup f, _, .tup h r => .tup (su _ _ h) (melt_reps sr su f r)
theorem melt_reps {m : Nat} {al : List Addr} (sr : SR0 K n μ) (su : Same n.Hb (meltH n m)) : ∀ {d e : List D}, FzL m μ d e → ∀ {v : List V}, Reps K n.Hb n.al v d → Reps K (meltH n m) al v e
  | _, _, .nil, _, .nil => .nil
  | _, _, .cons f g, _, .cons r s => .cons (melt_rep sr su f r) (melt_reps sr su g s)
end
theorem zip_maps {α β γ : Type} (l : List (α × β)) (m : List (α × γ)) (h : l.map (·.1) = m.map (·.1)) : (m.map (·.1)).zip (l.map (·.2)) = l := by
  rw [← h]
  induction l with
  | nil => rfl
  | cons a l ih => exact (by simp only [List.map_cons, List.zip_cons_cons]; congr 1; exact List.zip_of_prod rfl rfl |>.symm ▸ rfl)
end
end DV
namespace DV
open PySem PySem.Spec PyProof.Rows L2
def start0 (N : List Str) (ds : List D) : Gam := ds.map some ++ List.replicate (N.length - ds.length) none
section
variable {K : PySem.W.Frag} {n : Now}
theorem gr_start {N : List Str} {vs : List V} {ds : List D} (r : Reps K n.Hb n.al vs ds) : GR K n (start0 N ds) (L2.start N vs) := by
  have hl := r.length
  refine ⟨by simp [start0, L2.start, hl], fun i d h => ?_⟩
  unfold start0 at h
  unfold L2.start
  by_cases hi : i < ds.length
  · rw [List.getElem?_append_left (by simpa using hi), List.getElem?_map] at h
    rw [List.getElem?_append_left (by simp [hl]; exact hi), List.getElem?_map]
    cases e : ds[i]? with
    | none => rw [e] at h; cases h
    | some d' =>
      rw [e] at h
      have h' : d' = d := by simpa using h
      subst h'
      obtain ⟨v, h1, h2⟩ := r.get e
      exact ⟨v, by rw [h1]; rfl, h2⟩
  · rw [List.getElem?_append_right (by simpa using hi)] at h
    have := List.mem_of_getElem? h
    rw [List.mem_replicate] at this
    exact absurd this.2 (by simp)
end
theorem fn_end {K : PySem.W.Frag} {A n : Now} {μ : Mu} {Qd : D → Mu → Prop} {Q : VK} (s0 : SR0 K A μ) (hq : LV K A Qd Q) {v : V} {d : D} {μ' : Mu} (st : Step A n) (sr : SR0 K n μ') (rp : Rep K n.Hb n.al v d) (h : FnEnd μ d μ' Qd) : Q v n.H := by
  rcases h with q | ⟨μ1, loc, rfl, u, h⟩
  · exact hq n v d μ' st sr rp q
  obtain ⟨t1, t2⟩ := trunc s0 st sr u
  have hl : A.al.length = μ1.length := s0.len.trans u.1.symm
  rcases h with ⟨hp, q⟩ | ⟨l, rfl, hlt, q⟩ | ⟨l, ds, rfl, e, hp, q⟩ | ⟨l, ds, rfl, e, hp, q⟩ | ⟨l, ds, rfl, e, hp, q⟩ | ⟨l, ds, rfl, e, hp, q⟩ | ⟨e, hf, q⟩
  · exact hq ⟨n.Hb, n.H, A.al, n.ph⟩ v d μ1 t2 t1 (rp.any hp) q
  · refine hq ⟨n.Hb, n.H, A.al, n.ph⟩ v (.ref l) μ1 t2 t1 ?_ q
    cases rp with
    | ref h1 =>
      refine .ref ?_
      show A.al[l]? = _
      obtain ⟨t, ht⟩ := st.pre
      rw [← ht, List.getElem?_append_left (by omega)] at h1
      exact h1
  rotate_right
  · obtain ⟨z1, z2, z3⟩ := melted s0 st sr u
    exact hq ⟨meltH n μ1.length, n.H, A.al, n.ph⟩ _ e _ z2 z1 (melt_rep sr z3 hf rp) q
  all_goals
    cases rp with
    | ref h1 =>
      have hc : (μ1 ++ loc)[μ1.length + l]? = loc[l]? := (by rw [List.getElem?_append_right (by omega)]; simp)
      rw [e] at hc
      have q1 := sr.cell _ _ _ h1 hc
      first
        | (obtain ⟨z1, z2⟩ := handed s0 st sr u h1 e hp (fun k z => by cases z)
           refine hq ⟨n.Hb, n.H, A.al ++ [_], n.ph⟩ _ (.ref μ1.length) _ z2 z1 (.ref ?_) q
           show (A.al ++ [_])[μ1.length]? = _
           rw [← hl]; simp)
        | (obtain ⟨hb, vs, hv, hr⟩ := q1
           obtain ⟨z1, z2⟩ := frozen s0 st sr u h1 hv hb
           refine hq ⟨upd n.Hb _ _, n.H, A.al, n.ph⟩ _ (.lst ds) _ z2 z1 (.lst upd_same ((hr.any hp).mono (same_upd hb) (List.prefix_refl _))) q)
        | (obtain ⟨hb, vs, hv, hk, hr⟩ := q1
           obtain ⟨z1, z2⟩ := frozen s0 st sr u h1 hv hb
           have hz : ds = (vs.map (·.1)).zip (ds.map (·.2)) := (zip_maps ds vs hk).symm
           refine hq ⟨upd n.Hb _ _, n.H, A.al, n.ph⟩ _ (.dct ds) _ z2 z1 ?_ q
           rw [hz]
           exact .dct (.inl upd_same) rfl ((hr.any (by rw [← puK_eq]; exact hp)).mono (same_upd hb) (List.prefix_refl _)))
theorem exr_trunc {K : PySem.W.Frag} {A n : Now} {al : List Addr} {cls : Value} {dd : Option Addr} {x : Exn} (h : ExR K A n cls dd x) (hp : D.puF x.fs = true) (hal : ∀ a ∈ al, a ∈ n.al) : ExR K A ⟨n.Hb, n.H, al, n.ph⟩ cls dd x := by
  obtain ⟨h1, h⟩ := h
  rcases h with h | ⟨a, us, h2, hA, hh, h3, h4, h5⟩
  · exact ⟨h1, .inl h⟩
  refine ⟨h1, .inr ⟨a, us, h2, hA, ⟨hh.1, fun z => hh.2.1 (hal a z), hh.2.2⟩, h3, h4, fun f v e => ?_⟩⟩
  obtain ⟨d, e1, e2⟩ := h5 f v e
  exact ⟨d, e1, e2.any (puF_mem hp e1)⟩
section
variable {P : Program} {w : World} {K : PySem.W.Frag} {mg : Str → Option Value} {base : Heap}
/-- THE RULE for a def, deep: its body's deep form, and the reading of it -/
theorem fun_deep {x qual : Str} {st : Stmt} {f : Addr} {fd : FuncData} {N ps : List Str} {k : Nat} {S : DSp} {T : DTS} (F : Fun K x qual st f fd) (Sc : FnScope N ps (defScope st)) (len : ∀ ds μ Q E, S ds μ Q E → ds.length = ps.length)
    (hb : ∀ (cdv : Value) (A : Around) (outer : List Env) (s : Shared) (H : Hp) (E : XK), Room k (A.deeper (envOfC qual (defScope st) s.heap.objs.size f cdv)) →
      DSs (cxOf (L2.CX P w) P w K mg base N qual (defScope st) f cdv A outer s H E) (fun cls d _ H => E cls d H) (defBody st) T)
    (hr : ∀ ds μ Q E, S ds μ Q E → T (dFn μ Q E) (start0 N ds) μ) : FnOk P w K mg base (L2.CX P w) (k + 1) f fd ps (spOf K S) := by
  refine F.okX Sc (fun vs H Q E h => ?_) (fun cdv A outer s H vs Q E hroom h => ⟨_, hb cdv A outer s H E hroom, ?_⟩)
  · obtain ⟨n, ds, μ, Qd, Ed, _, _, r, h, _⟩ := h
    rw [r.length]; exact len ds μ Qd Ed h
  · obtain ⟨n, ds, μ, Qd, Ed, hH, sr, r, h, hq, hx⟩ := h
    subst hH
    refine ⟨n, n, start0 N ds, μ, dFn μ Qd Ed, rfl, Step.refl n, sr, gr_start r, hr ds μ Qd Ed h, ⟨fun n' Γ σ μ' s' r' _ q => ?_, fun _ _ _ _ _ _ _ q => q.elim, fun _ _ _ _ _ _ _ q => q.elim, fun n' v d μ' s' r' p q => ?_, fun n' Γ σ μ' cls dd y s' r' _ ex q => ?_⟩⟩
    · exact fn_end sr hq s' r' .non q
    · exact fn_end sr hq s' r' p q
    · obtain ⟨μ1, loc, rfl, u, hp, q⟩ := q
      obtain ⟨t1, t2⟩ := trunc sr s' r' u
      exact hx ⟨n'.Hb, n'.H, n.al, n'.ph⟩ cls dd y μ1 t2 t1 (exr_trunc ex hp fun a h => s'.pre.subset h) q
end
end DV
namespace DV
open PySem PySem.Spec PyProof.Rows L2
/-! ### what is walked -/
def Gd (src : Option (Nat × List D)) (μ : Mu) : Prop := match src with
  | none => True
  | some (l, ds) => μ[l]? = some (.lst ds)
/-- what a walk asks of a later look: what was fixed stays, the cells stand where they stood -/
structure SP (n n' : Now) : Prop where
  same : SameL n.Hb n'.Hb
  pre : n.al <+: n'.al
theorem Step.sp {n n' : Now} (s : Step n n') : SP n n' := ⟨s.same, s.pre⟩
theorem SP.rep {K : PySem.W.Frag} {n n' : Now} (s : SP n n') {v : V} {d : D} (h : Rep K n.Hb n.al v d) : Rep K n'.Hb n'.al v d := h.monoL s.same s.pre
theorem SP.trans {n n' n2 : Now} (a : SP n n') (b : SP n' n2) : SP n n2 := ⟨a.same.trans b.same, a.pre.trans b.pre⟩
structure DWalk (K : PySem.W.Frag) (n : Now) (J : It) (src : Option (Nat × List D)) (ds : List D) : Prop where
  goes : ∀ n2 μ2 i, SP n n2 → SR0 K n2 μ2 → Gd src μ2 → i < ds.length → J.go i n2.H
  stops : ∀ n2 μ2, SP n n2 → SR0 K n2 μ2 → Gd src μ2 → J.stop ds.length n2.H
  yields : ∀ n2 μ2 i x H' d, SP n n2 → SR0 K n2 μ2 → Gd src μ2 → ds[i]? = some d → J.yld i n2.H x H' → ∃ n3, n3.H = H' ∧ Step n2 n3 ∧ SR0 K n3 μ2 ∧ Rep K n3.Hb n3.al x d
theorem DWalk.step {K : PySem.W.Frag} {n n' : Now} {J : It} {src : Option (Nat × List D)} {ds : List D} (w : DWalk K n J src ds) (s : Step n n') : DWalk K n' J src ds :=
  ⟨fun n2 μ2 i s2 => w.goes n2 μ2 i (s.sp.trans s2), fun n2 μ2 s2 => w.stops n2 μ2 (s.sp.trans s2), fun n2 μ2 i x H' d s2 => w.yields n2 μ2 i x H' d (s.sp.trans s2)⟩
abbrev DTI := Gam → Mu → (Option (Nat × List D) → List D → Mu → Prop) → (Exn → Mu → Prop) → Prop
def liftI (K : PySem.W.Frag) (W : WX) (f : DTI) : TI := fun σ H R => ∃ n Γ μ Qd Ed, n.H = H ∧ SR0 K n μ ∧ GR K n Γ σ ∧ f Γ μ Qd Ed ∧
  (∀ n' src ds μ' J, Step n n' → SR0 K n' μ' → DWalk K n' J src ds → Qd src ds μ' → R J n'.H) ∧ XLink K W n Γ σ Ed
abbrev DI (X : Cx) (W : WX) (tg iter : Expr) (f : DTI) : Prop := PI X tg iter (liftI X.K W f)
/-- the signs of a text -/
def signs (z : Str) : List D := z.cps.toList.map fun c => D.str ⟨#[c]⟩
def dIter (f : DTE) : DTI := fun Γ μ Q E => f Γ μ (fun d μ1 => match d with
  | .lst ds => Q none ds μ1
  | .scr ns => Q none (ns.map D.int) μ1
  | .tup ds => Q none ds μ1
  | .str z => Q none (signs z) μ1
  | .ref l => (match μ1[l]? with | some (.lst ds) => Q (some (l, ds)) ds μ1 | _ => False)
  | _ => False) E
def irng (lo : Int) (n : Nat) : List D := (List.range n).map fun (i : Nat) => D.int (lo + i)
def dRange1 (f : DTE) : DTI := fun Γ μ Q E => f Γ μ (fun d μ1 => match d with
  | .int j => (-(2 ^ 62) ≤ j ∧ j < 2 ^ 62) ∧ Q none (irng 0 j.toNat) μ1
  | _ => False) E
def dRange2 (f g : DTE) : DTI := fun Γ μ Q E => f Γ μ (fun d μ1 => g Γ μ1 (fun e μ2 => match d, e with
  | .int i, .int j => (-(2 ^ 62) ≤ i ∧ i < 2 ^ 62 ∧ -(2 ^ 62) ≤ j ∧ j < 2 ^ 62) ∧ Q none (irng i (j - i).toNat) μ2
  | _, _ => False) E) E
section
variable {K : PySem.W.Frag} {n : Now} {μ : Mu}
theorem dw_list {a : Addr} {vs : List V} {ds : List D} (h : n.Hb a = some (.lst vs)) (r : Reps K n.Hb n.al vs ds) : DWalk K n (Itl K a) none ds := by
  have hl := r.length
  have w : Walk (Itl K a) vs.length (fun H => SqL K H a vs) (YAt vs) := walk_list
  have q : ∀ n2 μ2, SP n n2 → SR0 K n2 μ2 → SqL K n2.H a vs := fun n2 μ2 s sr => SqL.of (sr.same _ _ (s.same.lst h))
  refine ⟨fun n2 μ2 i s sr _ hi => w.goes i _ (hl ▸ hi) (q n2 μ2 s sr), fun n2 μ2 s sr _ => hl ▸ w.stops _ (q n2 μ2 s sr), fun n2 μ2 i x H' d s sr _ hd y => ?_⟩
  obtain ⟨rfl, hx⟩ := w.yields i _ x H' (hl ▸ (List.getElem?_eq_some_iff.mp hd).1) (q n2 μ2 s sr) y
  obtain ⟨v, h1, h2⟩ := r.get hd
  rw [hx] at h1; cases h1
  exact ⟨n2, rfl, Step.refl _, sr, s.rep h2⟩
theorem dw_scr {a : Addr} {ns : List Int} (h : SqL K n.Hb a (ns.map V.int)) : DWalk K n (Itl K a) none (ns.map D.int) := by
  have w : Walk (Itl K a) (ns.map V.int).length (fun H => SqL K H a (ns.map V.int)) (YAt (ns.map V.int)) := walk_list
  have hl : (ns.map V.int).length = (ns.map D.int).length := by simp
  have q : ∀ n2 μ2, SP n n2 → SR0 K n2 μ2 → SqL K n2.H a (ns.map V.int) := fun n2 μ2 s sr => sr.same.seq (s.same.seq h)
  refine ⟨fun n2 μ2 i s sr _ hi => w.goes i _ (hl ▸ hi) (q n2 μ2 s sr), fun n2 μ2 s sr _ => hl ▸ w.stops _ (q n2 μ2 s sr), fun n2 μ2 i x H' d s sr _ hd y => ?_⟩
  obtain ⟨rfl, hx⟩ := w.yields i _ x H' (hl ▸ (List.getElem?_eq_some_iff.mp hd).1) (q n2 μ2 s sr) y
  obtain ⟨v, h1, h2⟩ := (reps_ints (K := K) (Hb := n2.Hb) (al := n2.al) ns).get hd
  rw [hx] at h1; cases h1
  exact ⟨n2, rfl, Step.refl _, sr, h2⟩
theorem dw_tup {a : Addr} {vs : List V} {ds : List D} (h : n.Hb a = some (.tup vs)) (r : Reps K n.Hb n.al vs ds) : DWalk K n (Itt K a) none ds := by
  have hl := r.length
  have w : Walk (Itt K a) vs.length (fun H => SqT K H a vs) (YAt vs) := walk_tup
  have q : ∀ n2 μ2, SP n n2 → SR0 K n2 μ2 → SqT K n2.H a vs := fun n2 μ2 s sr => SqT.of (sr.same _ _ (s.same.tup h))
  refine ⟨fun n2 μ2 i s sr _ hi => w.goes i _ (hl ▸ hi) (q n2 μ2 s sr), fun n2 μ2 s sr _ => hl ▸ w.stops _ (q n2 μ2 s sr), fun n2 μ2 i x H' d s sr _ hd y => ?_⟩
  obtain ⟨rfl, hx⟩ := w.yields i _ x H' (hl ▸ (List.getElem?_eq_some_iff.mp hd).1) (q n2 μ2 s sr) y
  obtain ⟨v, h1, h2⟩ := r.get hd
  rw [hx] at h1; cases h1
  exact ⟨n2, rfl, Step.refl _, sr, s.rep h2⟩
theorem dw_str {z : Str} : DWalk K n (Its z) none (signs z) := by
  have hl : (signs z).length = z.cps.size := by simp [signs]
  have w : Walk (Its z) z.cps.size (fun _ => True) _ := walk_str
  refine ⟨fun n2 μ2 i s sr _ hi => w.goes i _ (hl ▸ hi) trivial, fun n2 μ2 s sr _ => hl ▸ w.stops _ trivial, fun n2 μ2 i x H' d s sr _ hd y => ?_⟩
  obtain ⟨rfl, c, hc, rfl⟩ := w.yields i _ x H' (hl ▸ (List.getElem?_eq_some_iff.mp hd).1) trivial y
  refine ⟨n2, rfl, Step.refl _, sr, ?_⟩
  have e : (signs z)[i]? = some (D.str ⟨#[c]⟩) := by
    unfold signs
    rw [List.getElem?_map, Array.getElem?_toList, hc]; rfl
  rw [hd] at e; cases e
  exact .str _
theorem dw_range {lo : Int} {k : Nat} : DWalk K n (Itr lo k) none (irng lo k) := by
  have hl : (irng lo k).length = k := by simp [irng]
  have w : Walk (Itr lo k) k (fun _ => True) _ := walk_range
  refine ⟨fun n2 μ2 i s sr _ hi => w.goes i _ (hl ▸ hi) trivial, fun n2 μ2 s sr _ => by rw [hl]; exact w.stops _ trivial, fun n2 μ2 i x H' d s sr _ hd y => ?_⟩
  have hi : i < k := hl ▸ (List.getElem?_eq_some_iff.mp hd).1
  obtain ⟨rfl, rfl⟩ := w.yields i _ x H' hi trivial y
  refine ⟨n2, rfl, Step.refl _, sr, ?_⟩
  have e : (irng lo k)[i]? = some (D.int (lo + i)) := by
    unfold irng
    rw [List.getElem?_map, List.getElem?_range hi]; rfl
  rw [hd] at e; cases e
  exact .int _
theorem dw_cell {l : Nat} {a : Addr} {ds : List D} (hl : n.al[l]? = some a) : DWalk K n (Itl K a) (some (l, ds)) ds := by
  have q : ∀ n2 μ2, SP n n2 → SR0 K n2 μ2 → Gd (some (l, ds)) μ2 → ∃ vs, SqL K n2.H a vs ∧ Reps K n2.Hb n2.al vs ds := fun n2 μ2 s sr g => by
    obtain ⟨_, vs, h1, h2⟩ := sr.cell l a (.lst ds) (pre_get s.pre hl) g
    exact ⟨vs, SqL.of h1, h2⟩
  have w : ∀ vs : List V, Walk (Itl K a) vs.length (fun H => SqL K H a vs) (YAt vs) := fun vs => walk_list
  refine ⟨fun n2 μ2 i s sr g hi => ?_, fun n2 μ2 s sr g => ?_, fun n2 μ2 i x H' d s sr g hd y => ?_⟩
  · obtain ⟨vs, h1, h2⟩ := q n2 μ2 s sr g
    exact (w vs).goes i _ (h2.length ▸ hi) h1
  · obtain ⟨vs, h1, h2⟩ := q n2 μ2 s sr g
    exact h2.length ▸ (w vs).stops _ h1
  · obtain ⟨vs, h1, h2⟩ := q n2 μ2 s sr g
    obtain ⟨rfl, hx⟩ := (w vs).yields i _ x H' (h2.length ▸ (List.getElem?_eq_some_iff.mp hd).1) h1 y
    obtain ⟨v, e1, e2⟩ := h2.get hd
    rw [hx] at e1; cases e1
    exact ⟨n2, rfl, Step.refl _, sr, e2⟩
end
def iAny (K : PySem.W.Frag) (tl : TE) : TI := fun σ H R => tl σ H fun x H1 => (∃ a, x = .ref a ∧ (∃ xs, SqL K H1 a xs) ∧ R (Itl K a) H1) ∨ (∃ a, x = .ref a ∧ (∃ xs, SqT K H1 a xs) ∧ R (Itt K a) H1) ∨ ∃ z, x = .str z ∧ R (Its z) H1
section
variable {X : Cx} {W : WX} {tg e a b : Expr} {p pos : Pos} {f g : DTE}
theorem pi_any {tl : TE} (hl : PE X e tl) : PI X tg e (iAny X.K tl) := by
  constructor
  intro pins s σ H R I h
  refine thn (hl.run pins s σ H _ I h) ?_
  rintro v s1 ⟨x, H1, I1, r1, q1⟩
  rcases q1 with ⟨a, rfl, ⟨xs, hq⟩, q⟩ | ⟨a, rfl, ⟨xs, hq⟩, q⟩ | ⟨z, rfl, q⟩
  · cases r1
    obtain ⟨its, rv, pl, hz⟩ := I1.list hq
    exact wpAny_pyIter_list pl.isList (pi_one (tk := s1.toks) I1 _ (turn_list a _) ⟨_, Heap.get?_push_size _ rfl, rfl, rfl⟩ q)
  · cases r1
    obtain ⟨its, rv, pl, hz⟩ := I1.tuple hq
    exact wpAny_pyIter_tuple (show s1.heap.IsTuple a its.toArray from pl) (pi_one (tk := s1.toks) I1 _ (turn_tuple a _) ⟨_, Heap.get?_push_size _ rfl, rfl, rfl⟩ q)
  · obtain ⟨t, rfl⟩ := r1
    cases ha : z.cps.all (· < 128) with
    | false => exact wpAny_pyIter_wide ha (pi_one (tk := s1.toks) I1 _ (turn_str _ z t "str_iterator" (.inr rfl)) ⟨_, Heap.get?_push_size _ rfl, rfl, rfl⟩ q)
    | true => exact wpAny_pyIter_ascii ha (pi_one (tk := s1.toks) I1 _ (turn_str _ z t "str_ascii_iterator" (.inl rfl)) ⟨_, Heap.get?_push_size _ rfl, rfl, rfl⟩ q)
theorem PI.imp {t t' : TI} (h : PI X tg e t) (hi : ∀ σ H R, t' σ H R → t σ H R) : PI X tg e t' := ⟨fun pins s σ H R I q => h.run pins s σ H R I (hi _ _ _ q)⟩
theorem di_any (h : DE X W e f) : DI X W tg e (dIter f) := PI.imp (pi_any h) fun σ H R ⟨n, Γ, μ, Qd, Ed, hH, sr, gr, h, hq, hx⟩ => by
  subst hH
  refine lift_go sr gr h (fun n1 x dx μ1 s1 r1 p1 q1 => ?_) hx
  cases p1 with
  | lst h1 h2 => exact .inl ⟨_, rfl, ⟨_, SqL.of (r1.same _ _ h1)⟩, hq n1 _ _ μ1 _ s1 r1 (dw_list h1 h2) q1⟩
  | tup h1 h2 => exact .inr (.inl ⟨_, rfl, ⟨_, SqT.of (r1.same _ _ h1)⟩, hq n1 _ _ μ1 _ s1 r1 (dw_tup h1 h2) q1⟩)
  | scr h1 => exact .inl ⟨_, rfl, ⟨_, r1.same.seq h1⟩, hq n1 _ _ μ1 _ s1 r1 (dw_scr h1) q1⟩
  | str z => exact .inr (.inr ⟨_, rfl, hq n1 _ _ μ1 _ s1 r1 dw_str q1⟩)
  | @ref l a hl =>
    dsimp only at q1
    split at q1
    · rename_i ds e
      obtain ⟨_, vs, e1, e2⟩ := r1.cell _ _ _ hl e
      exact .inl ⟨_, rfl, ⟨_, SqL.of e1⟩, hq n1 _ _ μ1 _ s1 r1 (dw_cell hl) q1⟩
    · exact q1.elim
  | _ => exact q1.elim
theorem di_range1 (hg : Gl X "range") (hm : X.mg "range" = none) (ha : DE X W a f) (hs : starEach [a] X.env = [(false, eval a X.env)] := by rfl) (hs2 : starEach [a] X.env = (false, eval a X.env) :: starEach [] X.env := by rfl) : DI X W tg (.Call (.Name "range" p) [a] [] pos) (dRange1 f) :=
  PI.imp (pi_range1 hg hm (pa_cons ha pa_nil hs2) hs) fun σ H R ⟨n, Γ, μ, Qd, Ed, hH, sr, gr, h, hq, hx⟩ => by
  subst hH
  refine lift_go sr gr h (fun n1 x dx μ1 s1 r1 p1 q1 => ?_) hx
  cases p1 with
  | int j => exact ⟨j, rfl, q1.1.1, q1.1.2, hq n1 _ _ μ1 _ s1 r1 dw_range q1.2⟩
  | _ => exact q1.elim
end
/-! ### for -/
def dLoop (src : Option (Nat × List D)) (g : DTG) (body : DTS) : List D → DEnds → Gam → Mu → Prop
  | [], D, Γ, μ => Gd src μ ∧ D.nx Γ μ
  | d :: ds, D, Γ, μ => Gd src μ ∧ g d Γ μ (fun Γ1 μ1 => body { D with nx := dLoop src g body ds D, ct := dLoop src g body ds D, bk := D.nx } Γ1 μ1) (fun x μ1 => D.ex x Γ μ1)
def dFor (fi : DTI) (g : DTG) (body : DTS) : DTS := fun D Γ μ => fi Γ μ (fun src ds μ1 => dLoop src g body ds D Γ μ1) (fun x μ1 => D.ex x Γ μ1)
section
variable {X : Cx} {W : WX} {tg iter c : Expr} {body : List Stmt} {pos : Pos} {fi : DTI} {g : DTG} {T : DTS} {t : DTT}
theorem ds_for (hp : PassesOwn (model X.prog X.w) X.A X.env X.xe) (hc : X.calm = true) (hi : DI X W tg iter fi) (hg : DG X W tg g) (hb : DSs X W body T)
    (hs : ∀ x, foldedSetIterable iter X.env x = pure x := by intro _; rfl) : DS X W (.For tg iter body [] pos) (dFor fi g T) :=
  PS.imp (ps_for hp hc hi hg hb hs) fun Dn σ H ⟨A, n, Γ, μ, Dd, hH, sa, sr, gr, h, l⟩ => by
  subst hH
  refine ⟨n, Γ, μ, _, _, rfl, sr, gr, h, fun n1 src ds μ1 J s1 r1 w q => ?_, l.x sa gr⟩
  -- the walk
  let Pv : Nat → L2.St → Hp → Prop := fun i σ' H' => ∃ n2 Γ2 μ2, n2.H = H' ∧ Step n1 n2 ∧ SR0 X.K n2 μ2 ∧ GR X.K n2 Γ2 σ' ∧ dLoop src g T (ds.drop i) Dd Γ2 μ2
  have hG : ∀ i Γ2 μ2, dLoop src g T (ds.drop i) Dd Γ2 μ2 → Gd src μ2 := fun i Γ2 μ2 z => by
    cases hd : ds.drop i with
    | nil => rw [hd] at z; exact z.1
    | cons d r => rw [hd] at z; exact z.1
  refine ⟨fun i m σ' H' => m = ds.length - i ∧ i ≤ ds.length ∧ Pv i σ' H', ⟨ds.length, by simp, Nat.zero_le _, n1, Γ, μ1, rfl, Step.refl _, r1, gr.step s1, q⟩, ?_⟩
  rintro i m σ' H' ⟨rfl, hi, n2, Γ2, μ2, rfl, s2, r2, g2, q2⟩
  have gd := hG i Γ2 μ2 q2
  by_cases hlt : i < ds.length
  · refine .inr ⟨w.goes n2 μ2 i s2.sp r2 gd hlt, Pv (i + 1), fun σ3 H3 p3 => ⟨ds.length - (i + 1), by omega, rfl, hlt, p3⟩, fun x H3 y => ?_⟩
    rw [List.drop_eq_getElem_cons hlt] at q2
    obtain ⟨n3, rfl, s3, r3, p3⟩ := w.yields n2 μ2 i x H3 ds[i] s2.sp r2 gd (by rw [List.getElem?_eq_getElem hlt]) y
    have st3 : Step A n3 := ((sa.trans s1).trans s2).trans s3
    refine ⟨n3, ds[i], Γ2, μ2, _, _, rfl, r3, g2.step s3, p3, q2.2, fun n4 Γ4 σ4 μ4 s4 r4 g4 q4 => ?_, l.x st3 (g2.step s3)⟩
    -- the body; its way back goes through n4
    refine liftS_go (A := n1) ((s2.trans s3).trans s4) r4 g4 q4 ⟨fun n5 Γ5 σ5 μ5 s5 r5 g5 q5 => ⟨n5, Γ5, μ5, rfl, s5, r5, g5, q5⟩, fun n5 Γ5 σ5 μ5 s5 r5 g5 q5 => l.nx n5 Γ5 σ5 μ5 ((sa.trans s1).trans s5) r5 g5 q5, fun n5 Γ5 σ5 μ5 s5 r5 g5 q5 => ⟨n5, Γ5, μ5, rfl, s5, r5, g5, q5⟩,
      fun n5 v d μ5 s5 r5 p5 q5 => l.rt n5 v d μ5 ((sa.trans s1).trans s5) r5 p5 q5, fun n5 Γ5 σ5 μ5 cls dd x s5 r5 g5 e5 q5 => l.ex n5 Γ5 σ5 μ5 cls dd x ((sa.trans s1).trans s5) r5 g5 (e5.anchor (sa.trans s1)) q5⟩
  · have e : i = ds.length := by omega
    subst e
    rw [List.drop_length] at q2
    exact .inl ⟨w.stops n2 μ2 s2.sp r2 gd, l.nx n2 Γ2 σ' μ2 ((sa.trans s1).trans s2) r2 g2 q2.2⟩
/-- while: by turns told ahead -/
def dWhileN (t : DTT) (body : DTS) : Nat → DEnds → Gam → Mu → Prop
  | 0, _, _, _ => False
  | m + 1, D, Γ, μ => t Γ μ (fun c μ1 => cond c (body { D with nx := dWhileN t body m D, ct := dWhileN t body m D, bk := D.nx } Γ μ1) (D.nx Γ μ1)) (fun x μ1 => D.ex x Γ μ1)
def dWhile (t : DTT) (body : DTS) : DTS := fun D Γ μ => ∃ m, dWhileN t body m D Γ μ
theorem ds_while (hp : PassesOwn (model X.prog X.w) X.A X.env X.xe) (hc : DT X W c t) (hb : DSs X W body T) : DS X W (.While c body [] pos) (dWhile t T) :=
  PS.imp (ps_while hp hc hb) fun Dn σ H ⟨A, n, Γ, μ, Dd, hH, sa, sr, gr, ⟨m, h⟩, l⟩ => by
  subst hH
  refine ⟨fun m σ' H' => ∃ n2 Γ2 μ2, n2.H = H' ∧ Step A n2 ∧ SR0 X.K n2 μ2 ∧ GR X.K n2 Γ2 σ' ∧ dWhileN t T m Dd Γ2 μ2, ⟨m, n, Γ, μ, rfl, sa, sr, gr, h⟩, ?_⟩
  rintro m σ' H' ⟨n2, Γ2, μ2, rfl, s2, r2, g2, q2⟩
  cases m with
  | zero => exact q2.elim
  | succ m =>
    refine liftT_go r2 g2 q2 (fun n3 b μ3 s3 r3 q3 => ?_) (l.x s2 g2)
    cases b with
    | false => exact iteF (l.nx n3 Γ2 σ' μ3 (s2.trans s3) r3 (g2.step s3) q3)
    | true =>
      refine iteT ⟨fun σ4 H4 => ∃ n4 Γ4 μ4, n4.H = H4 ∧ Step A n4 ∧ SR0 X.K n4 μ4 ∧ GR X.K n4 Γ4 σ4 ∧ dWhileN t T m Dd Γ4 μ4, fun σ4 H4 z => ⟨m, Nat.lt_succ_self m, z⟩, ?_⟩
      exact liftS_go (s2.trans s3) r3 (g2.step s3) q3 ⟨fun n5 Γ5 σ5 μ5 s5 r5 g5 q5 => ⟨n5, Γ5, μ5, rfl, s5, r5, g5, q5⟩, l.nx, fun n5 Γ5 σ5 μ5 s5 r5 g5 q5 => ⟨n5, Γ5, μ5, rfl, s5, r5, g5, q5⟩, l.rt, l.ex⟩
end
end DV
namespace DV
open PySem PySem.Spec PyProof.Rows L2
abbrev W0 : WX := fun _ _ _ _ => False
def wipeG (Γ : Gam) : List Nat → Gam
  | [] => Γ
  | v :: vs => (wipeG Γ vs).set v none
theorem wipeG_len (Γ : Gam) : ∀ vs, (wipeG Γ vs).length = Γ.length
  | [] => rfl
  | v :: vs => by simp [wipeG, wipeG_len Γ vs]
theorem GR.unset {K : PySem.W.Frag} {n : Now} {Γ : Gam} {σ : L2.St} (g : GR K n Γ σ) (i : Nat) : GR K n (Γ.set i none) (σ.set i none) := by
  refine ⟨by simp [g.len], fun j e h => ?_⟩
  by_cases hj : i = j
  · subst hj
    by_cases hl : i < Γ.length
    · rw [List.getElem?_set_self hl] at h; cases h
    · rw [List.getElem?_eq_none (by simp; omega)] at h; cases h
  · rw [List.getElem?_set_ne hj] at h ⊢
    exact g.at_ j e h
theorem GR.wipe {K : PySem.W.Frag} {n : Now} {Γ : Gam} {σ : L2.St} (g : GR K n Γ σ) : ∀ vs, GR K n (wipeG Γ vs) (L2.wipe σ vs)
  | [] => g
  | v :: vs => (GR.wipe g vs).unset v
/-- slots outside vs agree -/
theorem wipe_get (σ : L2.St) : ∀ (vs : List Nat) (k : Nat), (L2.wipe σ vs)[k]? = if k ∈ vs then (if k < σ.length then some none else none) else σ[k]?
  | [], k => by simp [L2.wipe]
  | v :: vs, k => by
    have ih := wipe_get σ vs k
    have hl := L2.wipe_length σ vs
    show ((L2.wipe σ vs).set v none)[k]? = _
    by_cases hk : v = k
    · subst hk
      simp only [List.mem_cons, true_or, if_true]
      by_cases hl2 : v < σ.length
      · rw [List.getElem?_set_self (by omega), if_pos hl2]
      · rw [List.getElem?_eq_none (by simp; omega), if_neg hl2]
    · rw [List.getElem?_set_ne hk, ih]
      have : (k ∈ v :: vs) ↔ k ∈ vs := by simp [Ne.symm hk]
      simp only [this]
theorem wipe_eq {σ σ' : L2.St} {vs : List Nat} (hl : σ'.length = σ.length) (h : ∀ k, k ∉ vs → σ'[k]? = σ[k]?) : L2.wipe σ' vs = L2.wipe σ vs := by
  apply List.ext_getElem?
  intro k
  rw [wipe_get, wipe_get, hl]
  split
  · rfl
  · rename_i hk; exact h k hk
/-- a comprehension's target -/
def CT (K : PySem.W.Frag) (vs : List Nat) (g : TG) (gd : D → Gam → Mu → (Gam → Prop) → Prop) : Prop :=
  ∀ n μ v d Γ σ (Qd : Gam → Prop) Q, SR0 K n μ → GR K n Γ σ → Rep K n.Hb n.al v d → gd d Γ μ Qd → (∀ Γ' σ', GR K n Γ' σ' → σ'.length = σ.length → (∀ k, k ∉ vs → σ'[k]? = σ[k]?) → Qd Γ' → Q σ' n.H) → g v σ n.H Q
def cName (i : Nat) : D → Gam → Mu → (Gam → Prop) → Prop := fun d Γ _ Q => Q (Γ.set i (some d))
theorem ct_name {K : PySem.W.Frag} {vs : List Nat} {i : Nat} (hi : i ∈ vs) : CT K vs (gName i) (cName i) := fun n μ v d Γ σ Qd Q sr gr rp h hq =>
  hq _ _ (gr.set rp i) (by simp) (fun k hk => List.getElem?_set_ne (show i ≠ k from fun z => hk (z ▸ hi))) h
/-- (x, y) as a target: a tuple of two -/
def cPair (i j : Nat) : D → Gam → Mu → (Gam → Prop) → Prop := fun d Γ _ Q => match d with
  | .tup [x, y] => Q ((Γ.set i (some x)).set j (some y))
  | _ => False
section
variable {K : PySem.W.Frag} {n n1 : Now} {μ : Mu} {p : Addr} {o : HO}
structure Hid (n : Now) (p : Addr) : Prop where
  b : n.Hb p = none
  a : p ∉ n.al
  ph : p ∉ n.ph
theorem SR0.other (s : SR0 K n μ) (h : Hid n p) : SR0 K (n.more p o) μ := by
  refine ⟨fun b u e => ?_, s.len, s.nd, fun i a c e1 e2 => ?_, fun a ha => ?_, s.orc1, fun b hb' => ?_⟩
  · show upd n.H p o b = _
    rw [upd_ne (ne_of_none e h.b)]; exact s.same _ _ e
  · have hne : a ≠ p := fun z => h.a (z ▸ List.mem_of_getElem? e1)
    exact (s.cell i a c e1 e2).grow (n' := n.more p o) (upd_ne hne) (fun z => z) (Same.refl _) (List.prefix_refl _) rfl fun b hb' => upd_ne fun z => h.ph (z ▸ hb')
  · have hne : a ≠ p := fun z => h.a (z ▸ ha)
    show upd n.H p o a ≠ none
    rw [upd_ne hne]; exact s.alh a ha
  · have hne : b ≠ p := fun z => h.ph (z ▸ hb')
    obtain ⟨h1, h2, h3⟩ := s.phb b hb'
    exact ⟨h1, h2, by show upd n.H p o b ≠ none; rw [upd_ne hne]; exact h3⟩
theorem Step.other (s : Step n1 n) (h : n1.H p = none) : Step n1 (n.more p o) where
  same := s.same
  pre := s.pre
  newb := s.newb
  newa := s.newa
  newp := s.newp
  keep := fun b u e h0 h1 h2 => by show upd n.H p o b = _; rw [upd_ne (ne_of_none e h)]; exact s.keep b u e h0 h1 h2
  dom := fun b e => by
    by_cases hb : b = p
    · subst hb; exact h
    · refine s.dom b ?_
      rw [← e]; exact (upd_ne hb).symm
theorem Hid.step {n' : Now} (h : Hid n p) (hp : n.H p = some o) (s : Step n n') : Hid n' p ∧ n'.H p = some o := by
  refine ⟨⟨?_, fun z => ?_, fun z => ?_⟩, s.keep p o hp h.b h.a h.ph⟩
  · cases e : n'.Hb p with
    | none => rfl
    | some u =>
      rcases s.newb p u e with z | z | z
      · exact absurd h.b z
      · rw [hp] at z; cases z
      · exact absurd z h.a
  · rcases s.newa p z with z | z
    · exact h.a z
    · rw [hp] at z; cases z
  · rcases s.newp p z with z | z
    · exact h.ph z
    · rw [hp] at z; cases z
theorem SR0.adopt (s : SR0 K n μ) (h : Hid n p) (hp : n.H p = some o) : SR0 K ⟨upd n.Hb p o, n.H, n.al, n.ph⟩ μ := by
  refine ⟨fun b u e => ?_, s.len, s.nd, fun i a c e1 e2 => ?_, s.alh, s.orc1, fun b hb' => ?_⟩
  · have e' : upd n.Hb p o b = some u := e
    by_cases hb : b = p
    · subst hb; rw [upd_same] at e'; cases e'; exact hp
    · rw [upd_ne hb] at e'; exact s.same _ _ e'
  · have hne : a ≠ p := fun z => h.a (z ▸ List.mem_of_getElem? e1)
    exact (s.cell i a c e1 e2).grow (n' := ⟨upd n.Hb p o, n.H, n.al, n.ph⟩) rfl (fun z => (upd_ne hne).trans z) (same_upd h.b) (List.prefix_refl _) rfl fun _ _ => rfl
  · have hne : b ≠ p := fun z => h.ph (z ▸ hb')
    obtain ⟨h1, h2, h3⟩ := s.phb b hb'
    exact ⟨(upd_ne hne).trans h1, h2, h3⟩
theorem Step.adopt (s : Step n1 n) (h1 : n1.H p = none) (h : Hid n p) : Step n1 ⟨upd n.Hb p o, n.H, n.al, n.ph⟩ where
  same := s.same.trans (Same.l (same_upd h.b))
  pre := s.pre
  newb := fun b u e => by
    have e' : upd n.Hb p o b = some u := e
    by_cases hb : b = p
    · subst hb; exact .inr (.inl h1)
    · rw [upd_ne hb] at e'; exact s.newb b u e'
  newa := s.newa
  newp := s.newp
  keep := s.keep
  dom := s.dom
theorem SR0.adoptC (s : SR0 K n μ) (h : Hid n p) (hp : n.H p = some o) {c : Cell} (hc : CellAt K ⟨n.Hb, n.H, n.al ++ [p], n.ph⟩ p c) (ho : ∀ k, c ≠ .orc k) : SR0 K ⟨n.Hb, n.H, n.al ++ [p], n.ph⟩ (μ ++ [c]) := by
  refine ⟨s.same, by simp [s.len], ?_, fun i a d e1 e2 => ?_, fun a ha => ?_, fun i j x y e1 e2 => ?_, fun b hb' => ?_⟩
  · show (n.al ++ [p]).Nodup
    rw [List.nodup_append]
    exact ⟨s.nd, by simp, fun a ha b hb z => by rw [List.mem_singleton.mp hb] at z; exact h.a (z ▸ ha)⟩
  · have e1' : (n.al ++ [p])[i]? = some a := e1
    by_cases hi : i < n.al.length
    · rw [List.getElem?_append_left hi] at e1'
      rw [List.getElem?_append_left (by rw [← s.len]; exact hi)] at e2
      exact (s.cell i a d e1' e2).grow (n' := ⟨n.Hb, n.H, n.al ++ [p], n.ph⟩) rfl (fun z => z) (Same.refl _) (List.prefix_append _ _) rfl fun _ _ => rfl
    · rw [List.getElem?_append_right (by omega)] at e1'
      rw [List.getElem?_append_right (by rw [← s.len]; omega), ← s.len] at e2
      have hz : i - n.al.length = 0 := by
        have := (List.getElem?_eq_some_iff.mp e1').1
        simp at this; omega
      rw [hz] at e1' e2
      simp at e1' e2
      subst e1'; subst e2
      exact hc
  · rcases List.mem_append.mp ha with z | z
    · exact s.alh a z
    · rw [List.mem_singleton.mp z]
      show n.H p ≠ none
      rw [hp]; simp
  · have q : ∀ (i : Nat) x, (μ ++ [c])[i]? = some (.orc x) → μ[i]? = some (.orc x) := fun i x e => by
      by_cases hi : i < μ.length
      · rw [List.getElem?_append_left hi] at e; exact e
      · rw [List.getElem?_append_right (by omega)] at e
        have hz : i - μ.length = 0 := by
          have := (List.getElem?_eq_some_iff.mp e).1
          simp at this; omega
        rw [hz] at e; simp at e
        exact absurd e (ho x)
    exact s.orc1 i j x y (q i x e1) (q j y e2)
  · obtain ⟨h1, h2, h3⟩ := s.phb b hb'
    refine ⟨h1, fun z => ?_, h3⟩
    rcases List.mem_append.mp z with z | z
    · exact h2 z
    · exact h.ph (List.mem_singleton.mp z ▸ hb')
theorem Step.adoptC (s : Step n1 n) (h1 : n1.H p = none) : Step n1 ⟨n.Hb, n.H, n.al ++ [p], n.ph⟩ where
  same := s.same
  pre := s.pre.trans (List.prefix_append _ _)
  newb := s.newb
  newa := fun b hb => by
    rcases List.mem_append.mp hb with z | z
    · exact s.newa b z
    · rw [List.mem_singleton.mp z]; exact .inr h1
  newp := s.newp
  keep := s.keep
  dom := s.dom
end
/-! ### comprehensions -/
def dYes : DTT := fun _ μ Q _ => Q true μ
def dCompL (src : Option (Nat × List D)) (g : D → Gam → Mu → (Gam → Prop) → Prop) (tt : DTT) (te : DTE) (Γ : Gam) : List D → List D → Mu → (List D → Mu → Prop) → Prop
  | [], acc, μ, Q => Gd src μ ∧ Q acc μ
  | d :: ds, acc, μ, Q => Gd src μ ∧ g d Γ μ fun Γ1 => tt Γ1 μ (fun b μ2 => cond b (te Γ1 μ2 (fun y μ3 => acc.length < sizeLine ∧ dCompL src g tt te Γ ds (acc ++ [y]) μ3 Q) (fun _ _ => False)) (dCompL src g tt te Γ ds acc μ2 Q)) (fun _ _ => False)
/-- as data (fz), or as a cell -/
def dFin (fz : Bool) (acc : List D) (μ : Mu) (Q : D → Mu → Prop) : Prop := match fz with
  | true => Q (.lst acc) μ
  | false => Q (.ref μ.length) (μ ++ [.lst acc])
def dComp (fz : Bool) (vs : List Nat) (fi : DTI) (g : D → Gam → Mu → (Gam → Prop) → Prop) (tt : DTT) (te : DTE) : DTE := fun Γ μ Q E => fi Γ μ (fun src ds μ1 => dCompL src g tt te (wipeG Γ vs) ds [] μ1 fun acc μ2 => dFin fz acc μ2 Q) E
theorem comp_go {K : PySem.W.Frag} {W : WX} {fz : Bool} {vs : List Nat} {fi : DTI} {g : TG} {gd : D → Gam → Mu → (Gam → Prop) → Prop} {tt : DTT} {te : DTE} (hg : CT K vs g gd) (σ : L2.St) (H : Hp) (Q : VK) (h : lift K W (dComp fz vs fi gd tt te) σ H Q) :
    tLc (liftI K W fi) g (liftT K W0 tt) (lift K W0 te) vs σ H Q := by
  obtain ⟨n, Γ, μ, Qd, Ed, hH, sr, gr, h, hq, hx⟩ := h
  subst hH
  refine ⟨n, Γ, μ, _, _, rfl, sr, gr, h, fun n1 src ds μ1 J s1 r1 w q p hp => ?_, hx⟩
  have gw := (gr.step s1).wipe vs
  refine ⟨fun i m H' => m = ds.length - i ∧ i ≤ ds.length ∧ ∃ n2 μ2 acc avs, n2.H = H' ∧ Step n1 n2 ∧ SR0 K n2 μ2 ∧ Hid n2 p ∧ n2.H p = some (.lst avs) ∧ Reps K n2.Hb n2.al avs acc ∧ dCompL src gd tt te (wipeG Γ vs) (ds.drop i) acc μ2 (fun acc μ2 => dFin fz acc μ2 Qd),
    ⟨ds.length, by simp, Nat.zero_le _, n1.more p (.lst []), μ1, [], [], rfl, Step.more hp, r1.more hp, ⟨r1.hb hp, r1.nal hp, r1.nph hp⟩, upd_same, .nil, q⟩, ?_⟩
  rintro i m H' ⟨rfl, hi, n2, μ2, acc, avs, rfl, s2, r2, hid, hv, rp, q2⟩
  have gd2 : Gd src μ2 := by
    cases hd : ds.drop i with
    | nil => rw [hd] at q2; exact q2.1
    | cons d r => rw [hd] at q2; exact q2.1
  by_cases hlt : i < ds.length
  · refine .inr ⟨w.goes n2 μ2 i s2.sp r2 gd2 hlt, _, fun H3 p3 => ⟨ds.length - (i + 1), by omega, p3⟩, fun x H3 y => ?_⟩
    rw [List.drop_eq_getElem_cons hlt] at q2
    obtain ⟨n3, rfl, s3, r3, p3⟩ := w.yields n2 μ2 i x H3 ds[i] s2.sp r2 gd2 (by rw [List.getElem?_eq_getElem hlt]) y
    refine hg n3 μ2 x ds[i] (wipeG Γ vs) (L2.wipe σ vs) _ _ r3 ((gw.step s2).step s3) p3 q2.2 fun Γ4 σ4 g4 hl4 ha4 q4 => ⟨?_, ?_⟩
    · refine (wipe_eq hl4 ha4).trans ?_
      exact wipe_eq (L2.wipe_length σ vs) (fun k hk => by rw [wipe_get, if_neg hk])
    · refine liftT_go r3 g4 q4 (fun n5 b μ5 s5 r5 q5 => ?_) (fun _ _ _ _ _ _ _ _ z => z)
      obtain ⟨hid3, hv3⟩ := hid.step hv s3
      obtain ⟨hid5, hv5⟩ := hid3.step hv3 s5
      cases b with
      | false =>
        exact iteF ⟨rfl, hlt, n5, μ5, acc, avs, rfl, (s2.trans s3).trans s5, r5, hid5, hv5, (s3.trans s5).reps rp, q5⟩
      | true =>
        refine iteT (lift_go r5 (g4.step s5) q5 (fun n6 y dy μ6 s6 r6 p6 q6 => ?_) (fun _ _ _ _ _ _ _ _ z => z))
        obtain ⟨hid6, hv6⟩ := hid5.step hv5 s6
        have rp6 := ((s3.trans s5).trans s6).reps rp
        refine ⟨avs, hv6, by rw [rp6.length]; exact q6.1, rfl, hlt, n6.more p (.lst (avs ++ [y])), μ6, acc ++ [dy], avs ++ [y], rfl, Step.other (((s2.trans s3).trans s5).trans s6) hp, r6.other hid6, ⟨hid6.b, hid6.a, hid6.ph⟩, upd_same, rp6.append (.cons p6 .nil), q6.2⟩
  · have e : i = ds.length := by omega
    subst e
    rw [List.drop_length] at q2
    refine .inl ⟨w.stops n2 μ2 s2.sp r2 gd2, ?_⟩
    have q3 := q2.2
    unfold dFin at q3
    cases fz with
    | true => exact hq ⟨upd n2.Hb p (.lst avs), n2.H, n2.al, n2.ph⟩ _ (.lst acc) μ2 (s1.trans (Step.adopt s2 hp hid)) (r2.adopt hid hv) (.lst upd_same (rp.mono (same_upd hid.b) (List.prefix_refl _))) q3
    | false =>
      refine hq ⟨n2.Hb, n2.H, n2.al ++ [p], n2.ph⟩ _ (.ref μ2.length) (μ2 ++ [Cell.lst acc]) (s1.trans (Step.adoptC s2 hp)) (r2.adoptC hid hv (c := .lst acc) ⟨hid.b, avs, hv, rp.mono (Same.refl _) (List.prefix_append _ _)⟩ (fun k z => by cases z)) (.ref ?_) q3
      show (n2.al ++ [p])[μ2.length]? = _
      rw [← r2.len]; simp
section
variable {X : Cx} {W : WX} {elt tg iter : Expr} {ifs : List Expr} {scope : Scope} {own : List (Str × Nat)} {pos : Pos} {fz : Bool} {fi : DTI} {g : TG} {gd : D → Gam → Mu → (Gam → Prop) → Prop} {tt : DTT} {te : DTE}
theorem dts_nil {X : Cx} : PTs X [] (liftT X.K W0 dYes) := ⟨fun pins s σ H Q I ⟨n, Γ, μ, Qd, Ed, hH, sr, gr, h, hq, hx⟩ => by
  subst hH
  exact (pts_nil (X := X)).run pins s σ n.H Q I (hq n true μ (Step.refl n) sr h)⟩
theorem dts_one {X : Cx} {c : Expr} (h : DT X W0 c tt) : PTs X [c] (liftT X.K W0 tt) := pts_one h
theorem de_lc (hc : X.calm = true) (hN : X.N.Nodup) (hi : DI X W tg iter fi) (ok : BlkOk X.N X.env.scope scope own) (hct : CT X.K (own.map (·.2)) g gd)
    (hg : ∀ (s : Shared) (H : Hp) (C : Addr) (cl : List (Str × Addr)) (fp : List Addr), PG (X.blk s H scope (compEnvC scope cl C X.env) fp) tg g)
    (ht : ∀ (s : Shared) (H : Hp) (C : Addr) (cl : List (Str × Addr)) (fp : List Addr), PTs (X.blk s H scope (compEnvC scope cl C X.env) fp) ifs (liftT X.K W0 tt))
    (he : ∀ (s : Shared) (H : Hp) (C : Addr) (cl : List (Str × Addr)) (fp : List Addr), PE (X.blk s H scope (compEnvC scope cl C X.env) fp) elt (lift X.K W0 te)) (hs : ∀ x, foldedSetIterable iter X.env x = pure x := by intro _; rfl) :
    DE X W (.ListComp elt [⟨tg, iter, ifs, 0⟩] scope pos) (dComp fz (own.map (·.2)) fi gd tt te) := PE.imp (pe_lc hc hN hi ok hg ht he hs) fun σ H Q h => comp_go hct σ H Q h
theorem ds_setLc {i : Nat} {y : Str} {py spos : Pos} (hc : X.calm = true) (hN : X.N.Nodup) (hy : X.N[i]? = some y) (hyl : X.env.scope.names.lookup y = some .local)
    (hsw : swapsWith (.ListComp elt [⟨tg, iter, ifs, 0⟩] scope pos) (some (.Name y py)) spos.line X.env = pure true) (hi : DI X W tg iter fi) (ok : BlkOk X.N X.env.scope scope own) (hct : CT X.K (own.map (·.2)) g gd)
    (hg : ∀ (s : Shared) (H : Hp) (C : Addr) (cl : List (Str × Addr)) (fp : List Addr), PG (X.blk s H scope (compEnvC scope cl C X.env) fp) tg g)
    (ht : ∀ (s : Shared) (H : Hp) (C : Addr) (cl : List (Str × Addr)) (fp : List Addr), PTs (X.blk s H scope (compEnvC scope cl C X.env) fp) ifs (liftT X.K W0 tt))
    (he : ∀ (s : Shared) (H : Hp) (C : Addr) (cl : List (Str × Addr)) (fp : List Addr), PE (X.blk s H scope (compEnvC scope cl C X.env) fp) elt (lift X.K W0 te)) (hs : ∀ x, foldedSetIterable iter X.env x = pure x := by intro _; rfl) :
    DS X W (.Assign [.Name y py] (.ListComp elt [⟨tg, iter, ifs, 0⟩] scope pos) spos) (dAsg (dComp fz (own.map (·.2)) fi gd tt te) (dName i)) := PS.imp (ps_setLc hc hN hy hyl hsw hi ok hg ht he hs) fun Dn σ H ⟨A, n, Γ, μ, Dd, hH, sa, sr, gr, h, l⟩ => by
  subst hH
  exact comp_go (fz := fz) hct σ n.H _ (lift_go sr gr h (fun n' v d μ' s' r' p q => l.nx n' (Γ.set i (some d)) (σ.set i (some v)) μ' (sa.trans s') r' ((gr.step s').set p i) q) (l.x sa gr))
end
end DV
namespace DV
open PySem PySem.Spec PyProof.Rows L2
/-! ### operators: the union of the layer's rules, read on data -/
section
variable {X : Cx} {f : Value → Value → Sem Value} {r r' : R2}
theorem opr_or (h : OpR X f r) (h' : OpR X f r') : OpR X f (fun x y H Q => r x y H Q ∨ r' x y H Q) := by
  intro pins s σ H x y v u Q I rx ry q
  rcases q with q | q
  · exact h pins s σ H x y v u Q I rx ry q
  · exact h' pins s σ H x y v u Q I rx ry q
theorem callr_or {g : Value} {r r' : List V → Hp → VK → Prop} (h : CallR X g r) (h' : CallR X g r') : CallR X g (fun x H Q => r x H Q ∨ r' x H Q) := by
  intro pins s σ H x u Q I rx q
  rcases q with q | q
  · exact h pins s σ H x u Q I rx q
  · exact h' pins s σ H x u Q I rx q
end
/-- flat data -/
def D.flat : D → Bool
  | .non => true | .bl _ => true | .int _ => true | .str _ => true | _ => false
/-- == of flat data -/
def D.eqF : D → D → Bool
  | .non, .non => true
  | .bl a, .bl b => a == b
  | .bl a, .int b => (if a then 1 else 0) == b
  | .int a, .bl b => a == (if b then 1 else 0)
  | .int a, .int b => a == b
  | .str a, .str b => a == b
  | _, _ => false
/-- deep data without dicts: to the library's own, k levels -/
def D.okn : Nat → D → Bool
  | _, .non => true
  | _, .bl _ => true
  | _, .int _ => true
  | _, .str x => PyData.strOk x
  | k + 1, .lst xs => xs.all (D.okn k)
  | k + 1, .tup xs => xs.all (D.okn k)
  | _, _ => false
def D.py : Nat → D → PyData
  | _, .bl b => .bool b
  | _, .int i => .int i
  | _, .str x => .str x
  | k + 1, .lst xs => .list (xs.map (D.py k))
  | k + 1, .tup xs => .tuple (xs.map (D.py k))
  | _, _ => .none
theorem canLayAll0_iff (l : List PyData) : PyData.canLayAll0 l = l.all PyData.canLay0 := by
  induction l with
  | nil => rfl
  | cons a l ih => rw [PyData.canLayAll0, ih]; rfl
theorem depthAll_le (l : List PyData) (k : Nat) (h : ∀ x ∈ l, PyData.depth x ≤ k) : PyData.depthAll l ≤ k := by
  induction l with
  | nil => simp [PyData.depthAll]
  | cons a l ih =>
    rw [PyData.depthAll]
    exact Nat.max_le.mpr ⟨h a (by simp), ih fun x hx => h x (by simp [hx])⟩
theorem okn_lay : ∀ (k : Nat) (d : D), D.okn k d = true → PyData.canLay0 (D.py k d) = true ∧ PyData.depth (D.py k d) ≤ k := by
  intro k
  induction k with
  | zero => intro d h; cases d <;> simp_all [D.okn, D.py, PyData.canLay0, PyData.depth]
  | succ k ih =>
    intro d h
    cases d with
    | lst xs =>
      simp only [D.okn, List.all_eq_true] at h
      simp only [D.py, PyData.canLay0, PyData.depth, canLayAll0_iff]
      refine ⟨?_, Nat.succ_le_succ (depthAll_le _ _ fun x hx => ?_)⟩
      · rw [List.all_eq_true]; intro x hx
        obtain ⟨y, hy, rfl⟩ := List.mem_map.mp hx
        exact (ih y (h y hy)).1
      · obtain ⟨y, hy, rfl⟩ := List.mem_map.mp hx
        exact (ih y (h y hy)).2
    | tup xs =>
      simp only [D.okn, List.all_eq_true] at h
      simp only [D.py, PyData.canLay0, PyData.depth, canLayAll0_iff]
      refine ⟨?_, Nat.succ_le_succ (depthAll_le _ _ fun x hx => ?_)⟩
      · rw [List.all_eq_true]; intro x hx
        obtain ⟨y, hy, rfl⟩ := List.mem_map.mp hx
        exact (ih y (h y hy)).1
      · obtain ⟨y, hy, rfl⟩ := List.mem_map.mp hx
        exact (ih y (h y hy)).2
    | _ => simp_all [D.okn, D.py, PyData.canLay0, PyData.depth]
section
variable {K : PySem.W.Frag} {Hb H : Hp} {al : List Addr}
theorem dp_of (s : Same Hb H) : ∀ (k : Nat) {v : V} {d : D}, Rep K Hb al v d → D.okn k d = true → Dp K H v (D.py k d) := by
  intro k
  induction k with
  | zero => intro v d r h; cases r <;> simp_all [D.okn, D.py] <;> constructor
  | succ k ih =>
    have all : ∀ {vs : List V} {ds : List D}, Reps K Hb al vs ds → ds.all (D.okn k) = true → DpAll K H vs (ds.map (D.py k)) := by
      intro vs
      induction vs with
      | nil => intro ds r _; cases r; exact .nil
      | cons v vs ihv =>
        intro ds r h
        cases r with
        | cons r1 r2 =>
          simp only [List.all_cons, Bool.and_eq_true] at h
          exact .cons (ih r1 h.1) (ihv r2 h.2)
    intro v d r h
    cases r with
    | lst h1 h2 =>
      simp only [D.okn] at h
      exact .lst (SqL.of (s _ _ h1)) (all h2 h)
    | tup h1 h2 =>
      simp only [D.okn] at h
      exact .tup (SqT.of (s _ _ h1)) (all h2 h)
    | non => simp only [D.py]; exact .non
    | bl b => simp only [D.py]; exact .bl b
    | int i => simp only [D.py]; exact .int i
    | str x => simp only [D.py]; exact .str x
    | _ => simp [D.okn] at h
end
/-- a cell that is compared: its list stands in H alone -/
theorem dp_see {K : PySem.W.Frag} {n : Now} {μ : Mu} {v : V} {d : D} (k : Nat) (s : SR0 K n μ) (r : Rep K n.Hb n.al v d) (h : D.okn (k + 1) (lk μ d) = true) : Dp K n.H v (D.py (k + 1) (lk μ d)) := by
  by_cases hr : ∃ l, d = .ref l
  · obtain ⟨l, rfl⟩ := hr
    cases e : lk μ (.ref l) with
    | lst ds =>
      rw [e] at h
      obtain ⟨a, vs, rfl, h1, h2⟩ := see_lst s r e
      have q : Dp K n.H (.ref a) (D.py (k + 1) (.lst ds)) := by
        simp only [D.okn] at h
        refine .lst (SqL.of h1) ?_
        clear e h1 r
        induction vs generalizing ds with
        | nil => cases h2; exact .nil
        | cons v vs ihv =>
          cases h2 with
          | cons r1 r2 =>
            simp only [List.all_cons, Bool.and_eq_true] at h
            exact .cons (dp_of s.same k r1 h.1) (ihv _ h.2 r2)
      exact q
    | ref m => rw [e] at h; simp [D.okn] at h
    | dct m => rw [e] at h; simp [D.okn] at h
    | ins C m => rw [e] at h; simp [D.okn] at h
    | _ =>
      have z := lk_ref e (by simp)
      rcases z with ⟨_, _, q⟩ | ⟨_, _, q⟩ | ⟨_, _, _, q⟩ <;> cases q
  · have e : lk μ d = d := by
      cases d with
      | ref l => exact absurd ⟨l, rfl⟩ hr
      | _ => rfl
    rw [e] at h ⊢
    exact dp_of s.same _ r h
/-- ==, 12 levels deep -/
def deq (μ : Mu) (x y : D) : Bool := PyData.eqv (D.py 12 (lk μ x)) (D.py 12 (lk μ y))
def deqOk (μ : Mu) (x y : D) : Prop := D.okn 12 (lk μ x) = true ∧ D.okn 12 (lk μ y) = true
def gEq : G2 := fun x y μ Q => deqOk μ x y ∧ Q (.bl (deq μ x y)) μ
def gNe : G2 := fun x y μ Q => deqOk μ x y ∧ Q (.bl (!deq μ x y)) μ
theorem shaped_py {d : D} (h : D.okn 12 d = true) : SeqAt.shaped (D.py 12 d) = true := by
  obtain ⟨h1, h2⟩ := okn_lay 12 d h
  unfold SeqAt.shaped
  rw [h1, Bool.true_and, decide_eq_true]
  omega
theorem op_gEq {K : PySem.W.Frag} : Op2 K (rEqD K) gEq := fun n μ x y dx dy Qd Q s rx ry h l =>
  ⟨_, _, dp_see 11 s rx h.1.1, dp_see 11 s ry h.1.2, shaped_py h.1.1, shaped_py h.1.2, l.now s (.bl _) h.2⟩
theorem op_gNe {K : PySem.W.Frag} : Op2 K (rNeD K) gNe := fun n μ x y dx dy Qd Q s rx ry h l =>
  ⟨_, _, dp_see 11 s rx h.1.1, dp_see 11 s ry h.1.2, shaped_py h.1.1, shaped_py h.1.2, l.now s (.bl _) h.2⟩
section
variable {X : Cx} {W : WX} {a b c : Expr} {pos : Pos} {fa fb fc : DTE}
theorem dt_cmp {op : CmpOp} {r : R2} {g : G2} (ho : OpR X (compareOp op) r) (hg : Op2 X.K r g) (ha : DE X W a fa) (hb : DE X W b fb) (hm : behindInMarks op b = false := by rfl) : DT X W (.Compare a [op] [b] pos) (dTest (dBin g fa fb)) := PT.imp (pt_cmpR ho ha hb hm) fun σ H Q ⟨n, Γ, μ, Qd, Ed, hH, sr, gr, h, hq, hx⟩ => by
  subst hH
  unfold tTest
  refine two hg σ n.H _ (lift_go sr gr h (fun n1 x dx μ1 s1 r1 p1 q1 => ?_) hx)
  cases p1 with
  | bl b => exact ⟨b, rfl, hq n1 b μ1 s1 r1 q1⟩
  | _ => exact q1.elim
theorem dt_eq (hu : X.A.units + 64 < cLine) (ha : DE X W a fa) (hb : DE X W b fb) : DT X W (.Compare a [.Eq] [b] pos) (dTest (dBin gEq fa fb)) := dt_cmp (op_eqD hu) op_gEq ha hb (nomark _)
theorem dt_ne (hu : X.A.units + 64 < cLine) (ha : DE X W a fa) (hb : DE X W b fb) : DT X W (.Compare a [.NotEq] [b] pos) (dTest (dBin gNe fa fb)) := dt_cmp (op_neD hu) op_gNe ha hb (nomark _)
theorem de_eq (hu : X.A.units + 64 < cLine) (ha : DE X W a fa) (hb : DE X W b fb) : DE X W (.Compare a [.Eq] [b] pos) (dBin gEq fa fb) := de_cmp (op_eqD hu) op_gEq ha hb (nomark _)
theorem de_ne (hu : X.A.units + 64 < cLine) (ha : DE X W a fa) (hb : DE X W b fb) : DE X W (.Compare a [.NotEq] [b] pos) (dBin gNe fa fb) := de_cmp (op_neD hu) op_gNe ha hb (nomark _)
/-! ### ints -/
def gI (g : Int → Int → D) : G2 := fun x y μ Q => match x, y with
  | .int i, .int j => Q (g i j) μ
  | _, _ => False
theorem op_gI {K : PySem.W.Frag} {gv : Int → Int → V} {gd : Int → Int → D} (h : ∀ K Hb al i j, Rep K Hb al (gv i j) (gd i j)) : Op2 K (rI0 gv) (gI gd) := fun n μ x y dx dy Qd Q s rx ry q l => by
  cases rx with
  | int i =>
    cases ry with
    | int j => exact ⟨i, j, rfl, rfl, l.now s (h _ _ _ i j) q⟩
    | _ => exact q.elim
  | _ => exact q.elim
theorem de_gt (ha : DE X W a fa) (hb : DE X W b fb) : DE X W (.Compare a [.Gt] [b] pos) (dBin (gI fun i j => .bl (decide (j < i))) fa fb) := de_cmp op_gt (op_gI fun _ _ _ _ _ => .bl _) ha hb (nomark _)
theorem dt_lt (ha : DE X W a fa) (hb : DE X W b fb) : DT X W (.Compare a [.Lt] [b] pos) (dTest (dBin (gI fun i j => .bl (decide (i < j))) fa fb)) := dt_cmp op_lt (op_gI fun _ _ _ _ _ => .bl _) ha hb (nomark _)
theorem dt_gt (ha : DE X W a fa) (hb : DE X W b fb) : DT X W (.Compare a [.Gt] [b] pos) (dTest (dBin (gI fun i j => .bl (decide (j < i))) fa fb)) := dt_cmp op_gt (op_gI fun _ _ _ _ _ => .bl _) ha hb (nomark _)
theorem dt_ge (ha : DE X W a fa) (hb : DE X W b fb) : DT X W (.Compare a [.GtE] [b] pos) (dTest (dBin (gI fun i j => .bl (decide (j ≤ i))) fa fb)) := dt_cmp op_ge (op_gI fun _ _ _ _ _ => .bl _) ha hb (nomark _)
theorem de_sub (ha : DE X W a fa) (hb : DE X W b fb) : DE X W (.BinOp a .Sub b pos) (dBin (gI fun i j => .int (i - j)) fa fb) := de_op op_sub (op_gI fun _ _ _ _ _ => .int _) ha hb
/-- + : ints, texts, lists, tuples -/
def gAdd : G2 := fun x y μ Q => match lk μ x, lk μ y with
  | .int i, .int j => Q (.int (i + j)) μ
  | .str i, .str j => i.length + j.length ≤ sizeLine ∧ Q (.str (i ++ j)) μ
  | .lst i, .lst j => i.length + j.length ≤ sizeLine ∧ Q (.lst (i ++ j)) μ
  | .tup i, .tup j => i.length + j.length ≤ sizeLine ∧ Q (.tup (i ++ j)) μ
  | _, _ => False
theorem lk_int {μ : Mu} {d : D} {i : Int} (h : lk μ d = .int i) : d = .int i := by
  cases d with
  | ref l => rcases lk_ref h (by simp) with ⟨_, _, q⟩ | ⟨_, _, q⟩ | ⟨_, _, _, q⟩ <;> cases q
  | _ => exact h
theorem lk_str {μ : Mu} {d : D} {i : Str} (h : lk μ d = .str i) : d = .str i := by
  cases d with
  | ref l => rcases lk_ref h (by simp) with ⟨_, _, q⟩ | ⟨_, _, q⟩ | ⟨_, _, _, q⟩ <;> cases q
  | _ => exact h
theorem lk_scr {μ : Mu} {d : D} {i : List Int} (h : lk μ d = .scr i) : d = .scr i := by
  cases d with
  | ref l => rcases lk_ref h (by simp) with ⟨_, _, q⟩ | ⟨_, _, q⟩ | ⟨_, _, _, q⟩ <;> cases q
  | _ => exact h
theorem op_gAdd {K : PySem.W.Frag} : Op2 K (fun x y H Q => rI0 (fun i j => .int (i + j)) x y H Q ∨ (∃ i j, x = .str i ∧ y = .str j ∧ i.length + j.length ≤ sizeLine ∧ Q (.str (i ++ j)) H) ∨ rCat x y H Q ∨ rCatA K x y H Q) gAdd := fun n μ x y dx dy Qd Q s rx ry q l => by
  unfold gAdd at q
  split at q
  · rename_i i j e1 e2
    rw [lk_int e1] at rx; rw [lk_int e2] at ry
    cases rx; cases ry
    exact .inl ⟨i, j, rfl, rfl, l.now s (.int _) q⟩
  · rename_i i j e1 e2
    rw [lk_str e1] at rx; rw [lk_str e2] at ry
    cases rx; cases ry
    exact .inr (.inl ⟨i, j, rfl, rfl, q.1, l.now s (.str _) q.2⟩)
  · rename_i i j e1 e2
    obtain ⟨a, vs, rfl, h1, r1⟩ := see_lst s rx e1
    obtain ⟨b, us, rfl, h2, r2⟩ := see_lst s ry e2
    exact .inr (.inr (.inl ⟨a, b, vs, us, rfl, rfl, h1, h2, by rw [r1.length, r2.length]; exact q.1, fun p hp => new_lst l s hp (r1.append r2) q.2⟩))
  · rename_i i j e1 e2
    have o1 : dx = .tup i := by
      cases dx with
      | ref l => rcases lk_ref e1 (by simp) with ⟨_, _, q⟩ | ⟨_, _, q⟩ | ⟨_, _, _, q⟩ <;> cases q
      | _ => exact e1
    have o2 : dy = .tup j := by
      cases dy with
      | ref l => rcases lk_ref e2 (by simp) with ⟨_, _, q⟩ | ⟨_, _, q⟩ | ⟨_, _, _, q⟩ <;> cases q
      | _ => exact e2
    obtain ⟨a, vs, rfl, h1, g1, r1⟩ := see_tup s rx e1
    obtain ⟨b, us, rfl, h2, g2, r2⟩ := see_tup s ry e2
    refine .inr (.inr (.inr ⟨a, b, vs, us, rfl, rfl, SqT.of h1, SqT.of h2, by rw [r1.length, r2.length]; exact q.1, fun z => ?_, fun _ z => ?_, fun _ _ p hp => new_tup l s hp (r1.append r2) q.2⟩))
    · subst z
      cases r1
      exact l.now s (.tup g2 r2) q.2
    · subst z
      cases r2
      exact l.now s (.tup g1 r1) (by simpa using q.2)
  · exact q.elim
theorem de_add (ha : DE X W a fa) (hb : DE X W b fb) : DE X W (.BinOp a .Add b pos) (dBin gAdd fa fb) :=
  de_op (opr_or op_add (opr_or op_add_str (opr_or op_cat op_catA))) op_gAdd ha hb
/-- * : ints (one factor small), a list by a number -/
def gMul : G2 := fun x y μ Q => match lk μ x, lk μ y with
  | .int i, .int j => ((-(2 ^ 64) < i ∧ i < 2 ^ 64) ∨ (-(2 ^ 64) < j ∧ j < 2 ^ 64)) ∧ Q (.int (i * j)) μ
  | .lst i, .int k => (-(2 ^ 63) ≤ k ∧ k < 2 ^ 63 ∧ i.length * k.toNat ≤ sizeLine) ∧ Q (.lst (List.replicate k.toNat i).flatten) μ
  | _, _ => False
theorem reps_rep {K : PySem.W.Frag} {Hb : Hp} {al : List Addr} {vs : List V} {ds : List D} (r : Reps K Hb al vs ds) (k : Nat) : Reps K Hb al (List.replicate k vs).flatten (List.replicate k ds).flatten := by
  induction k with
  | zero => exact .nil
  | succ k ih =>
    simp only [List.replicate_succ, List.flatten_cons]
    exact r.append ih
theorem op_gMul {K : PySem.W.Frag} : Op2 K (fun x y H Q => rI CMul (fun i j => .int (i * j)) x y H Q ∨ rRep x y H Q) gMul := fun n μ x y dx dy Qd Q s rx ry q l => by
  unfold gMul at q
  split at q
  · rename_i i j e1 e2
    rw [lk_int e1] at rx; rw [lk_int e2] at ry
    cases rx; cases ry
    exact .inl ⟨i, j, rfl, rfl, q.1, l.now s (.int _) q.2⟩
  · rename_i i k e1 e2
    obtain ⟨a, vs, rfl, h1, r1⟩ := see_lst s rx e1
    rw [lk_int e2] at ry
    cases ry
    exact .inr ⟨a, k, vs, rfl, rfl, h1, q.1.1, q.1.2.1, by rw [r1.length]; exact q.1.2.2, fun p hp => new_lst l s hp (reps_rep r1 _) q.2⟩
  · exact q.elim
theorem de_mul (ha : DE X W a fa) (hb : DE X W b fb) : DE X W (.BinOp a .Mult b pos) (dBin gMul fa fb) := de_op (opr_or op_mul op_rep) op_gMul ha hb
def gMod : G2 := fun x y μ Q => match x, y with
  | .int i, .int j => j ≠ 0 ∧ Q (.int (i.fmod j)) μ
  | _, _ => False
theorem op_gMod {K : PySem.W.Frag} : Op2 K (rI (fun _ j => j ≠ 0) fun i j => .int (i.fmod j)) gMod := fun n μ x y dx dy Qd Q s rx ry q l => by
  cases rx with
  | int i =>
    cases ry with
    | int j => exact ⟨i, j, rfl, rfl, q.1, l.now s (.int _) q.2⟩
    | _ => exact q.elim
  | _ => exact q.elim
theorem de_mod (ha : DE X W a fa) (hb : DE X W b fb) : DE X W (.BinOp a .Mod b pos) (dBin gMod fa fb) := de_op op_modN op_gMod ha hb
def gFdiv : G2 := fun x y μ Q => match x, y with
  | .int i, .int j => (0 < j ∧ j.natAbs.log2 < 9000) ∧ Q (.int (i / j)) μ
  | _, _ => False
theorem op_gFdiv {K : PySem.W.Frag} : Op2 K (rI CDivW fun i j => .int (i / j)) gFdiv := fun n μ x y dx dy Qd Q s rx ry q l => by
  cases rx with
  | int i =>
    cases ry with
    | int j => exact ⟨i, j, rfl, rfl, q.1, l.now s (.int _) q.2⟩
    | _ => exact q.elim
  | _ => exact q.elim
theorem de_fdiv (ha : DE X W a fa) (hb : DE X W b fb) : DE X W (.BinOp a .FloorDiv b pos) (dBin gFdiv fa fb) := de_op op_fdivW op_gFdiv ha hb
def gPow : G2 := fun x y μ Q => match x, y with
  | .int i, .int j => (0 ≤ j ∧ j ≤ 1000000 ∧ i.natAbs < 2 ^ 64) ∧ Q (.int (i ^ j.toNat)) μ
  | _, _ => False
theorem op_gPow {K : PySem.W.Frag} : Op2 K (rI CPow fun i j => .int (i ^ j.toNat)) gPow := fun n μ x y dx dy Qd Q s rx ry q l => by
  cases rx with
  | int i =>
    cases ry with
    | int j => exact ⟨i, j, rfl, rfl, q.1, l.now s (.int _) q.2⟩
    | _ => exact q.elim
  | _ => exact q.elim
theorem de_pow (ha : DE X W a fa) (hb : DE X W b fb) : DE X W (.BinOp a .Pow b pos) (dBin gPow fa fb) := de_op op_pow op_gPow ha hb
def gNeg : G1 := fun x μ Q => match x with
  | .int i => Q (.int (-i)) μ
  | _ => False
/-! ### chains of two comparisons of ints -/
def dChain (g g' : Int → Int → Bool) (fa fb fc : DTE) : DTE := fun Γ μ Q E => fa Γ μ (fun x μ1 => fb Γ μ1 (fun y μ2 => match x, y with
  | .int i, .int j => cond (g i j) (fc Γ μ2 (fun z μ3 => match z with | .int k => Q (.bl (g' j k)) μ3 | _ => False) E) (Q (.bl false) μ2)
  | _, _ => False) E) E
theorem dt_chain {op op' : CmpOp} {g g' : Int → Int → Bool} (ho : OpR X (compareOp op) (rI0 fun i j => .bl (g i j))) (ho' : OpR X (compareOp op') (rI0 fun i j => .bl (g' i j))) (ha : DE X W a fa) (hb : DE X W b fb) (hc : DE X W c fc)
    (hm : lastMarks [op, op'] [b, c] = false := by with_unfolding_all rfl) : DT X W (.Compare a [op, op'] [b, c] pos) (dTest (dChain g g' fa fb fc)) := PT.imp (pt_chain ho ho' ha hb hc hm) fun σ H Q ⟨n, Γ, μ, Qd, Ed, hH, sr, gr, h, hq, hx⟩ => by
  subst hH
  unfold tTest tChain
  refine lift_go sr gr h (fun n1 x dx μ1 s1 r1 p1 q1 => lift_go r1 (gr.step s1) q1 (fun n2 y dy μ2 s2 r2 p2 q2 => ?_) (hx.step s1)) hx
  cases p1 with
  | int i =>
    cases p2 with
    | int j =>
      refine ⟨i, j, rfl, rfl, g i j, rfl, ?_⟩
      dsimp only at q2
      cases e : g i j with
      | false => rw [e] at q2; exact iteF ⟨_, rfl, hq n2 _ μ2 (s1.trans s2) r2 q2⟩
      | true =>
        rw [e] at q2
        refine iteT (lift_go r2 ((gr.step s1).step s2) q2 (fun n3 z dz μ3 s3 r3 p3 q3 => ?_) ((hx.step s1).step s2))
        cases p3 with
        | int k => exact ⟨j, k, rfl, rfl, _, rfl, hq n3 _ μ3 ((s1.trans s2).trans s3) r3 q3⟩
        | _ => exact q3.elim
    | _ => exact q2.elim
  | _ => exact q2.elim
/-! ### subscripts -/
def gIx : G2 := fun x y μ Q => match lk μ x, y with
  | .lst xs, .int i => (match atI xs i with | some d => Q d μ | none => False)
  | .tup xs, .int i => (match atI xs i with | some d => Q d μ | none => False)
  | .str z, .int i => z.length ≤ sizeLine ∧ (match atI z.cps.toList i with | some c => Q (.str ⟨#[c]⟩) μ | none => False)
  | _, _ => False
theorem reps_at {K : PySem.W.Frag} {Hb : Hp} {al : List Addr} {vs : List V} {ds : List D} (r : Reps K Hb al vs ds) {i : Int} {d : D} (h : atI ds i = some d) : ∃ v, atI vs i = some v ∧ Rep K Hb al v d := by
  unfold atI at h ⊢
  rw [r.length]
  cases e : ixN ds.length i with
  | none => rw [e] at h; cases h
  | some j => rw [e] at h; exact r.get h
theorem op_gIx {K : PySem.W.Frag} : Op2 K (rIx K) gIx := fun n μ x y dx dy Qd Q s rx ry q l => by
  unfold gIx at q
  split at q
  · rename_i xs i e1
    cases ry
    obtain ⟨a, vs, rfl, h1, r1⟩ := see_lst s rx e1
    split at q
    · rename_i d e
      obtain ⟨v, h2, r2⟩ := reps_at r1 e
      exact .inl ⟨a, vs, i, v, rfl, rfl, SqL.of h1, h2, l.now s r2 q⟩
    · exact q.elim
  · rename_i xs i e1
    cases ry
    obtain ⟨a, vs, rfl, h1, _, r1⟩ := see_tup s rx e1
    split at q
    · rename_i d e
      obtain ⟨v, h2, r2⟩ := reps_at r1 e
      exact .inr (.inl ⟨a, vs, i, v, rfl, rfl, SqT.of h1, h2, l.now s r2 q⟩)
    · exact q.elim
  · rename_i z i e1
    cases ry
    rw [lk_str e1] at rx
    cases rx
    obtain ⟨hz, q⟩ := q
    split at q
    · rename_i c e
      exact .inr (.inr ⟨z, i, c, rfl, rfl, hz, e, l.now s (.str _) q⟩)
    · exact q.elim
  · exact q.elim
theorem de_sub_ (ha : DE X W a fa) (hb : DE X W b fb) (hs : PlainIx b := by exact fun _ _ => rfl) : DE X W (.Subscript a b pos) (dBin gIx fa fb) := de_ix ix_seq op_gIx ha hb hs
end
end DV
namespace DV
open PySem PySem.Spec PyProof.Rows L2
section
variable {X : Cx} {W : WX} {a b c e o : Expr} {es : List Expr} {p pos apos : Pos} {fa fb fc : DTE} {fr : DTA}
/-! ### built-ins of one argument -/
def gLen : GN := fun ds μ Q => match ds with
  | [d] => (match lk μ d with
    | .lst xs => Q (.int xs.length) μ
    | .tup xs => Q (.int xs.length) μ
    | .str z => z.length ≤ sizeLine ∧ Q (.int z.length) μ
    | .dct kvs => Q (.int kvs.length) μ
    | _ => False)
  | _ => False
theorem op_gLen {K : PySem.W.Frag} : OpN K (fun xs H Q => (∃ x n, xs = [x] ∧ LenV K x H n ∧ Q (.int n) H) ∨ ∃ a kvs, xs = [V.ref a] ∧ Rd H a (.dK kvs) ∧ Q (.int kvs.length) H) gLen := fun n μ xs ds Qd Q s r q l => by
  unfold gLen at q
  split at q
  · cases r with
    | cons r1 r2 =>
      cases r2
      split at q
      · rename_i ys e
        obtain ⟨a, vs, rfl, h1, h2⟩ := see_lst s r1 e
        exact .inl ⟨_, _, rfl, .inl ⟨vs, SqL.of h1, rfl⟩, l.now s (.int _) (by rw [h2.length]; exact q)⟩
      · rename_i ys e
        obtain ⟨a, vs, rfl, h1, _, h2⟩ := see_tup s r1 e
        exact .inl ⟨_, _, rfl, .inr ⟨vs, SqT.of h1, rfl⟩, l.now s (.int _) (by rw [h2.length]; exact q)⟩
      · rename_i z e
        rw [lk_str e] at r1
        cases r1
        exact .inl ⟨_, _, rfl, ⟨q.1, rfl⟩, l.now s (.int _) q.2⟩
      · rename_i kvs e
        obtain ⟨a, us, rfl, h1, h2, h3⟩ := see_dct s r1 e
        have hl : kvs.length = us.length := by simpa using congrArg List.length h2
        exact .inr ⟨a, us, rfl, h1, l.now s (.int _) (by rw [← hl]; exact q)⟩
      · exact q.elim
  · exact q.elim
theorem call_lenDR : CallR X (.builtin "len") (fun xs H Q => ∃ a kvs, xs = [V.ref a] ∧ Rd H a (.dK kvs) ∧ Q (.int kvs.length) H) := by
  intro pins s σ H xs us Q I r h
  obtain ⟨a, kvs, rfl, ha, q⟩ := h
  obtain ⟨u, rfl, ru⟩ := vals1 r
  cases ru
  exact d_len I ha fun t s' I' => ⟨.int kvs.length, H, I', ⟨t, rfl⟩, q⟩
theorem de_len (hg : Gl X "len") (hm : X.mg "len" = none) (ha : DE X W a fa) (hs : starEach [a] X.env = (false, eval a X.env) :: starEach [] X.env := by rfl) : DE X W (.Call (.Name "len" p) [a] [] pos) (dCall gLen (dCons fa dNil)) :=
  de_callB (callr_or call_len call_lenDR) op_gLen hg hm PySem.boot_len (da_cons ha da_nil hs) (he := hs)
def gAbs : GN := fun ds μ Q => match ds with
  | [.int i] => Q (.int (if i < 0 then -i else i)) μ
  | _ => False
theorem de_abs (hg : Gl X "abs") (hm : X.mg "abs" = none) (ha : DE X W a fa) (hs : starEach [a] X.env = (false, eval a X.env) :: starEach [] X.env := by rfl) : DE X W (.Call (.Name "abs" p) [a] [] pos) (dCall gAbs (dCons fa dNil)) :=
  de_callB call_abs (fun n μ xs ds Qd Q s r q l => by
    unfold gAbs at q
    split at q
    · cases r with
      | cons r1 r2 => cases r2; cases r1; exact ⟨_, rfl, l.now s (.int _) q⟩
    · exact q.elim) hg hm (by decide +kernel) (da_cons ha da_nil hs) (he := hs)
def gInt : GN := fun ds μ Q => match ds with
  | [.int i] => Q (.int i) μ
  | [.bl b] => Q (.int (if b then 1 else 0)) μ
  | _ => False
theorem de_intC (hg : Gl X "int") (hm : X.mg "int" = none) (ha : DE X W a fa) (hs : starEach [a] X.env = (false, eval a X.env) :: starEach [] X.env := by rfl) : DE X W (.Call (.Name "int" p) [a] [] pos) (dCall gInt (dCons fa dNil)) :=
  de_callTy call_int1 (fun n μ xs ds Qd Q s r q l => by
    unfold gInt at q
    split at q
    · cases r with
      | cons r1 r2 => cases r2; cases r1; exact .inl ⟨_, rfl, l.now s (.int _) q⟩
    · cases r with
      | cons r1 r2 => cases r2; cases r1; exact .inr ⟨_, rfl, l.now s (.int _) q⟩
    · exact q.elim) hg hm (by decide +kernel) (da_cons ha da_nil hs) (he := hs)
/-- list(x): as data, or as a cell -/
def gList (fz : Bool) : GN := fun ds μ Q => match ds with
  | [d] => (match lk μ d with
    | .lst xs => dFin fz xs μ Q
    | .tup xs => dFin fz xs μ Q
    | .scr ns => dFin fz (ns.map D.int) μ Q
    | _ => False)
  | _ => False
theorem fin_lst {K : PySem.W.Frag} {n : Now} {Qd : D → Mu → Prop} {Q : VK} {fz : Bool} (l : LV K n Qd Q) {μ : Mu} (s : SR0 K n μ) {p : Addr} {vs : List V} {ds : List D} (hp : n.H p = none) (r : Reps K n.Hb n.al vs ds) (q : dFin fz ds μ Qd) : Q (.ref p) (upd n.H p (.lst vs)) := by
  cases fz with
  | true => exact new_lst l s hp r q
  | false => exact new_cell l s hp r q
theorem op_gList {K : PySem.W.Frag} {fz : Bool} : OpN K (fun xs H Q => ∃ p ys, xs = [.ref p] ∧ (SqL K H p ys ∨ SqT K H p ys) ∧ ∀ l, H l = none → Q (.ref l) (upd H l (.lst ys))) (gList fz) := fun n μ xs ds Qd Q s r q l => by
  unfold gList at q
  split at q
  · cases r with
    | cons r1 r2 =>
      cases r2
      split at q
      · rename_i ys e
        obtain ⟨a, vs, rfl, h1, h2⟩ := see_lst s r1 e
        exact ⟨a, vs, rfl, .inl (SqL.of h1), fun p hp => fin_lst l s hp h2 q⟩
      · rename_i ys e
        obtain ⟨a, vs, rfl, h1, _, h2⟩ := see_tup s r1 e
        exact ⟨a, vs, rfl, .inr (SqT.of h1), fun p hp => fin_lst l s hp h2 q⟩
      · rename_i ns e
        rw [lk_scr e] at r1
        cases r1 with
        | scr h1 => exact ⟨_, _, rfl, .inl (s.same.seq h1), fun p hp => fin_lst l s hp (reps_ints ns) q⟩
      · exact q.elim
  · exact q.elim
theorem de_list (fz : Bool) (hg : Gl X "list") (hm : X.mg "list" = none) (ha : DE X W a fa) (hs : starEach [a] X.env = (false, eval a X.env) :: starEach [] X.env := by rfl) : DE X W (.Call (.Name "list" p) [a] [] pos) (dCall (gList fz) (dCons fa dNil)) :=
  de_callTy call_list_of op_gList hg hm (by decide +kernel) (da_cons ha da_nil hs) (he := hs)
def gTuple : GN := fun ds μ Q => match ds with
  | [d] => (match lk μ d with
    | .lst xs => Q (.tup xs) μ
    | .tup xs => Q (.tup xs) μ
    | _ => False)
  | _ => False
theorem op_gTuple {K : PySem.W.Frag} : OpN K (fun xs H Q => ∃ p ys, xs = [.ref p] ∧ ((SqL K H p ys ∧ ∀ l, H l = none → Q (.ref l) (upd H l (.tup ys))) ∨ (SqT K H p ys ∧ Q (.ref p) H))) gTuple := fun n μ xs ds Qd Q s r q l => by
  unfold gTuple at q
  split at q
  · cases r with
    | cons r1 r2 =>
      cases r2
      split at q
      · rename_i ys e
        obtain ⟨a, vs, rfl, h1, h2⟩ := see_lst s r1 e
        exact ⟨a, vs, rfl, .inl ⟨SqL.of h1, fun p hp => new_tup l s hp h2 q⟩⟩
      · rename_i ys e
        obtain ⟨a, vs, rfl, h1, h0, h2⟩ := see_tup s r1 e
        exact ⟨a, vs, rfl, .inr ⟨SqT.of h1, l.now s (.tup h0 h2) q⟩⟩
      · exact q.elim
  · exact q.elim
theorem de_tuple (hg : Gl X "tuple") (hm : X.mg "tuple" = none) (ha : DE X W a fa) (hs : starEach [a] X.env = (false, eval a X.env) :: starEach [] X.env := by rfl) : DE X W (.Call (.Name "tuple" p) [a] [] pos) (dCall gTuple (dCons fa dNil)) :=
  de_callTy call_tuple_of op_gTuple hg hm (by decide +kernel) (da_cons ha da_nil hs) (he := hs)
/-- a list made by +, as a cell -/
def gAddM : G2 := fun x y μ Q => match lk μ x, lk μ y with
  | .lst i, .lst j => i.length + j.length ≤ sizeLine ∧ Q (.ref μ.length) (μ ++ [.lst (i ++ j)])
  | _, _ => False
theorem de_addM (ha : DE X W a fa) (hb : DE X W b fb) : DE X W (.BinOp a .Add b pos) (dBin gAddM fa fb) := de_op op_cat (fun n μ x y dx dy Qd Q s rx ry q l => by
  unfold gAddM at q
  split at q
  · rename_i i j e1 e2
    obtain ⟨a, vs, rfl, h1, r1⟩ := see_lst s rx e1
    obtain ⟨b, us, rfl, h2, r2⟩ := see_lst s ry e2
    exact ⟨a, b, vs, us, rfl, rfl, h1, h2, by rw [r1.length, r2.length]; exact q.1, fun p hp => new_cell l s hp (r1.append r2) q.2⟩
  · exact q.elim) ha hb
/-! ### isinstance against a built-in class -/
inductive Ty where
  | non | bool | int | str | list | tup | dict
  deriving DecidableEq
def Ty.nm : Ty → String
  | .non => "NoneType" | .bool => "bool" | .int => "int" | .str => "str" | .list => "list" | .tup => "tuple" | .dict => "dict"
def Ty.sub (a b : Ty) : Bool := decide (a = b) || (decide (a = .bool) && decide (b = .int))
theorem kit_sub (a b : Ty) (hb : b ≠ .non) : kitB a.nm b.nm = some (a.sub b) := by
  cases b <;> first | exact absurd rfl hb | (cases a <;> decide +kernel)
def tyD : D → Option Ty
  | .non => some .non | .bl _ => some .bool | .int _ => some .int | .str _ => some .str | .lst _ => some .list | .tup _ => some .tup | .dct _ => some .dict | _ => none
theorem ty_of {K : PySem.W.Frag} {n : Now} {μ : Mu} {v : V} {d : D} {t : Ty} (s : SR0 K n μ) (r : Rep K n.Hb n.al v d) (h : tyD (lk μ d) = some t) : TyX K n.H v (.type t.nm) := by
  cases e : lk μ d with
  | lst ds => rw [e] at h; cases h; obtain ⟨a, vs, rfl, h1, _⟩ := see_lst s r e; exact .base (.lst h1)
  | tup ds => rw [e] at h; cases h; obtain ⟨a, vs, rfl, h1, _⟩ := see_tup s r e; exact .base (.tup h1)
  | dct ds => rw [e] at h; cases h; obtain ⟨a, vs, rfl, h1, _⟩ := see_dct s r e; exact h1.elim (fun h => .base (.dK h)) fun ⟨o, h⟩ => .fDict h
  | int i => rw [e] at h; cases h; rw [lk_int e] at r; cases r; exact .base (.int i)
  | str i => rw [e] at h; cases h; rw [lk_str e] at r; cases r; exact .base (.str i)
  | non =>
    rw [e] at h; cases h
    cases d with
    | ref l => rcases lk_ref e (by simp) with ⟨_, _, q⟩ | ⟨_, _, q⟩ | ⟨_, _, _, q⟩ <;> cases q
    | non => cases r; exact .base .non
    | _ => cases e
  | bl b =>
    rw [e] at h; cases h
    cases d with
    | ref l => rcases lk_ref e (by simp) with ⟨_, _, q⟩ | ⟨_, _, q⟩ | ⟨_, _, _, q⟩ <;> cases q
    | bl b => cases e; cases r; exact .base (.bl _)
    | _ => cases e
  | _ => rw [e] at h; cases h
def dIsi (t : Ty) (f : DTE) : DTE := fun Γ μ Q E => f Γ μ (fun d μ1 => match tyD (lk μ1 d) with
  | some a => Q (.bl (a.sub t)) μ1
  | none => False) E
theorem de_isi {T : Str} {p2 : Pos} (t : Ty) (ht : t ≠ .non) (hg : Gl X "isinstance") (hm : X.mg "isinstance" = none) (ha : DE X W a fa) (hgT : Gl X T) (hmT : X.mg T = none) (hvT : bootBuiltins T = some (.type t.nm)) (hn : T ≠ "__name__" := by decide) (hd : (T == ("__debug__" : Str)) = false := by decide)
    (hs : starEach [a, .Name T p2] X.env = (false, eval a X.env) :: starEach [.Name T p2] X.env := by rfl) (hs2 : starEach [.Name T p2] X.env = (false, eval (.Name T p2) X.env) :: starEach [] X.env := by rfl) (hpl : (backTo pos (starEach [.Name T p2] X.env)).any (·.1) = false := by rfl) :
    DE X W (.Call (.Name "isinstance" p) [a, .Name T p2] [] pos) (dIsi t fa) :=
  PE.imp (pe_callB call_isi hg hm (by decide +kernel) (pa_cons ha (pa_cons (pe_bltn (v := .ty t.nm) hgT hmT hvT rfl hn hd) pa_nil hs2) hs) (by decide) (by decide) hs hpl) fun σ H Q ⟨n, Γ, μ, Qd, Ed, hH, sr, gr, h, hq, hx⟩ => by
  subst hH
  refine lift_go sr gr h (fun n1 x dx μ1 s1 r1 p1 q1 => ?_) hx
  try dsimp only at q1
  split at q1
  · rename_i t' e
    exact ⟨_, _, _, _, _, rfl, .ty _, ty_of r1 p1 e, kit_ty (kit_sub t' t ht), hq n1 _ _ μ1 s1 r1 (.bl _) q1⟩
  · exact q1.elim
/-! ### is None -/
def D.isN : D → Bool
  | .non => true
  | _ => false
def gIs : G2 := fun x y μ Q => match y with
  | .non => Q (.bl x.isN) μ
  | _ => False
def gIsNot : G2 := fun x y μ Q => match y with
  | .non => Q (.bl (!x.isN)) μ
  | _ => False
/-! ### in: flat things in a list or tuple, a sign in a text, a key in a dict -/
def inF (x : D) (xs : List D) : Bool := xs.any fun y => D.eqF y x
theorem eqF_of {K : PySem.W.Frag} {Hb : Hp} {al : List Addr} {v u : V} {d e : D} (r : Rep K Hb al v d) (q : Rep K Hb al u e) (h1 : d.flat = true) (h2 : e.flat = true) : eqV v u = D.eqF d e := by
  cases r <;> first | (simp [D.flat] at h1; done) | (cases q <;> first | (simp [D.flat] at h2; done) | rfl)
theorem flat_of {K : PySem.W.Frag} {Hb : Hp} {al : List Addr} {v : V} {d : D} (r : Rep K Hb al v d) (h : d.flat = true) : flatV v = true := by
  cases r <;> first | (simp [D.flat] at h; done) | rfl
theorem inF_of {K : PySem.W.Frag} {Hb : Hp} {al : List Addr} {v : V} {d : D} (r : Rep K Hb al v d) (h : d.flat = true) : ∀ {vs : List V} {ds : List D}, Reps K Hb al vs ds → ds.all D.flat = true → inV v vs = inF d ds ∧ vs.all flatV = true
  | _, _, .nil, _ => ⟨rfl, rfl⟩
  | _, _, .cons r1 r2, q => by
    simp only [List.all_cons, Bool.and_eq_true] at q
    obtain ⟨h1, h2⟩ := inF_of r h r2 q.2
    refine ⟨?_, by simp only [List.all_cons, flat_of r1 q.1, h2, Bool.and_self]⟩
    show (eqV _ v || inV v _) = (D.eqF _ d || inF d _)
    rw [eqF_of r1 r q.1 h, h1]
/-- one sign -/
def sgn (x : Str) : Option Nat := match x.cps.toList with
  | [c] => some c
  | _ => none
theorem sgn_eq {x : Str} {c : Nat} (h : sgn x = some c) : x = ⟨#[c]⟩ := by
  unfold sgn at h
  split at h
  · rename_i e
    cases h
    cases x with
    | mk cps => simp at e; cases cps; simp at e; subst e; rfl
  · cases h
def gIn (neg : Bool) : G2 := fun x y μ Q => match lk μ y with
  | .lst ys => (x.flat = true ∧ ys.all D.flat = true) ∧ Q (.bl (if neg then !inF x ys else inF x ys)) μ
  | .tup ys => (x.flat = true ∧ ys.all D.flat = true) ∧ Q (.bl (if neg then !inF x ys else inF x ys)) μ
  | .str z => (match x with
    | .str w => (match sgn w with | some c => Q (.bl (if neg then !decide (c ∈ z.cps.toList) else decide (c ∈ z.cps.toList))) μ | none => False)
    | _ => False)
  | _ => False
theorem op_gIn {K : PySem.W.Frag} : Op2 K (fun x y H Q => rIn K false x y H Q ∨ ∃ (c : Nat) (z : Str), x = .str ⟨#[c]⟩ ∧ y = .str z ∧ Q (.bl (decide (c ∈ z.cps.toList))) H) (gIn false) := fun n μ x y dx dy Qd Q s rx ry q l => by
  unfold gIn at q
  split at q
  · rename_i ys e
    obtain ⟨a, vs, rfl, h1, h2⟩ := see_lst s ry e
    obtain ⟨g1, g2⟩ := inF_of rx q.1.1 h2 q.1.2
    exact .inl ⟨a, vs, rfl, .inl (SqL.of h1), flat_of rx q.1.1, g2, by rw [g1]; exact l.now s (.bl _) q.2⟩
  · rename_i ys e
    obtain ⟨a, vs, rfl, h1, _, h2⟩ := see_tup s ry e
    obtain ⟨g1, g2⟩ := inF_of rx q.1.1 h2 q.1.2
    exact .inl ⟨a, vs, rfl, .inr (SqT.of h1), flat_of rx q.1.1, g2, by rw [g1]; exact l.now s (.bl _) q.2⟩
  · rename_i z e
    rw [lk_str e] at ry
    cases ry
    split at q
    · cases rx
      split at q
      · rename_i c e2
        exact .inr ⟨c, z, by rw [sgn_eq e2], rfl, l.now s (.bl _) q⟩
      · exact q.elim
    · exact q.elim
  · exact q.elim
theorem op_gNotIn {K : PySem.W.Frag} : Op2 K (fun x y H Q => rIn K true x y H Q ∨ ∃ (c : Nat) (z : Str), x = .str ⟨#[c]⟩ ∧ y = .str z ∧ Q (.bl (!decide (c ∈ z.cps.toList))) H) (gIn true) := fun n μ x y dx dy Qd Q s rx ry q l => by
  unfold gIn at q
  split at q
  · rename_i ys e
    obtain ⟨a, vs, rfl, h1, h2⟩ := see_lst s ry e
    obtain ⟨g1, g2⟩ := inF_of rx q.1.1 h2 q.1.2
    exact .inl ⟨a, vs, rfl, .inl (SqL.of h1), flat_of rx q.1.1, g2, by rw [g1]; exact l.now s (.bl _) q.2⟩
  · rename_i ys e
    obtain ⟨a, vs, rfl, h1, _, h2⟩ := see_tup s ry e
    obtain ⟨g1, g2⟩ := inF_of rx q.1.1 h2 q.1.2
    exact .inl ⟨a, vs, rfl, .inr (SqT.of h1), flat_of rx q.1.1, g2, by rw [g1]; exact l.now s (.bl _) q.2⟩
  · rename_i z e
    rw [lk_str e] at ry
    cases ry
    split at q
    · cases rx
      split at q
      · rename_i c e2
        exact .inr ⟨c, z, by rw [sgn_eq e2], rfl, l.now s (.bl _) q⟩
      · exact q.elim
    · exact q.elim
  · exact q.elim
theorem de_notin (ha : DE X W a fa) (hb : DE X W b fb) (hm : behindInMarks .NotIn b = false := by rfl) : DE X W (.Compare a [.NotIn] [b] pos) (dBin (gIn true) fa fb) := de_cmp (opr_or op_notIn_seq op_notIn_sign) op_gNotIn ha hb hm
theorem dt_in (ha : DE X W a fa) (hb : DE X W b fb) (hm : behindInMarks .In b = false := by rfl) : DT X W (.Compare a [.In] [b] pos) (dTest (dBin (gIn false) fa fb)) := dt_cmp (opr_or op_in_seq op_in_sign) op_gIn ha hb hm
theorem dt_notin (ha : DE X W a fa) (hb : DE X W b fb) (hm : behindInMarks .NotIn b = false := by rfl) : DT X W (.Compare a [.NotIn] [b] pos) (dTest (dBin (gIn true) fa fb)) := dt_cmp (opr_or op_notIn_seq op_notIn_sign) op_gNotIn ha hb hm
/-! ### methods of built-in types -/
def strD : List D → Option (List Str)
  | [] => some []
  | .str x :: xs => (strD xs).map (x :: ·)
  | _ => none
theorem strD_map (xs : List Str) : strD (xs.map D.str) = some xs := by
  induction xs with
  | nil => rfl
  | cons x xs ih => simp [strD, ih]
theorem strD_eq : ∀ {ds : List D} {xs : List Str}, strD ds = some xs → ds = xs.map D.str
  | [], xs, h => by simp [strD] at h; subst h; rfl
  | .str x :: ds, xs, h => by
    simp only [strD, Option.map_eq_some_iff] at h
    obtain ⟨ys, h1, rfl⟩ := h
    rw [strD_eq h1]; rfl
  | .non :: _, _, h => by simp [strD] at h
  | .bl _ :: _, _, h => by simp [strD] at h
  | .int _ :: _, _, h => by simp [strD] at h
  | .ref _ :: _, _, h => by simp [strD] at h
  | .cls _ :: _, _, h => by simp [strD] at h
  | .scr _ :: _, _, h => by simp [strD] at h
  | .lst _ :: _, _, h => by simp [strD] at h
  | .tup _ :: _, _, h => by simp [strD] at h
  | .dct _ :: _, _, h => by simp [strD] at h
  | .ins _ _ :: _, _, h => by simp [strD] at h
def dJoin (fo fe : DTE) : DTE := fun Γ μ Q E => fo Γ μ (fun x μ1 => (∃ a, x = .str a) ∧ fe Γ μ1 (fun y μ2 => match x with
  | .str a => (match lk μ2 y with
    | .lst ds => (match strD ds with | some ys => (ys.map (·.length)).sum + ys.length * a.length ≤ 16777216 ∧ Q (.str (Txt.join a ys)) μ2 | none => False)
    | .tup ds => (match strD ds with | some ys => (ys.map (·.length)).sum + ys.length * a.length ≤ 16777216 ∧ Q (.str (Txt.join a ys)) μ2 | none => False)
    | _ => False)
  | _ => False) E) E
theorem de_join (ho : DE X W o fa) (he : DE X W e fb) (hs : starEach [e] X.env = [(false, eval e X.env)] := by rfl) (hbase : attributeBase o "join" X.env (eval o X.env) = eval o X.env := by rfl) (hline : (apos.endLine == pos.line) = true := by rfl) :
    DE X W (.Call (.Attribute o "join" apos) [e] [] pos) (dJoin fa fb) := PE.imp (pe_join ho he hs hbase hline) fun σ H Q ⟨n, Γ, μ, Qd, Ed, hH, sr, gr, h, hq, hx⟩ => by
  subst hH
  refine lift_go sr gr h (fun n1 x dx μ1 s1 r1 p1 q1 => ?_) hx
  obtain ⟨⟨z, rfl⟩, q1⟩ := q1
  cases p1
  refine ⟨⟨z, rfl⟩, lift_go r1 (gr.step s1) q1 (fun n2 y dy μ2 s2 r2 p2 q2 => ?_) (hx.step s1)⟩
  dsimp only at q2
  split at q2
  · rename_i ds e
    split at q2
    · rename_i ys e2
      obtain ⟨a, vs, rfl, h1, h2⟩ := see_lst r2 p2 e
      rw [strD_eq e2] at h2
      have e3 := Reps.strs ys h2
      subst e3
      exact ⟨z, a, ys, rfl, rfl, .inl (SqL.of h1), q2.1, hq n2 _ _ μ2 (s1.trans s2) r2 (.str _) q2.2⟩
    · exact q2.elim
  · rename_i ds e
    split at q2
    · rename_i ys e2
      obtain ⟨a, vs, rfl, h1, _, h2⟩ := see_tup r2 p2 e
      rw [strD_eq e2] at h2
      have e3 := Reps.strs ys h2
      subst e3
      exact ⟨z, a, ys, rfl, rfl, .inr (SqT.of h1), q2.1, hq n2 _ _ μ2 (s1.trans s2) r2 (.str _) q2.2⟩
    · exact q2.elim
  · exact q2.elim
/-- a list's own method that writes: on a cell -/
def dCellM (g : List D → List D → Option (D × List D)) (fo : DTE) (fr : DTA) : DTE := fun Γ μ Q E => fo Γ μ (fun x μ1 => match x with
  | .ref l => (match μ1[l]? with
    | some (.lst _) => fr Γ μ1 (fun vs μ2 => match μ2[l]? with
      | some (.lst xs) => (match g xs vs with | some (d, ys) => Q d (μ2.set l (.lst ys)) | none => False)
      | _ => False) E
    | _ => False)
  | _ => False) E
def CellOp (K : PySem.W.Frag) (r : V → List V → Hp → VK → Prop) (g : List D → List D → Option (D × List D)) : Prop := ∀ Hb al H p (us vs : List V) (xs ds : List D) d ys (Q : VK), H p = some (.lst us) → Reps K Hb al us xs → Reps K Hb al vs ds → g xs ds = some (d, ys) →
  (∀ v ws, Rep K Hb al v d → Reps K Hb al ws ys → Q v (upd H p (.lst ws))) → r (.ref p) vs H Q
theorem cellm_go {K : PySem.W.Frag} {r : V → List V → Hp → VK → Prop} {g : List D → List D → Option (D × List D)} (hg : CellOp K r g) (σ : L2.St) (H : Hp) (Q : VK) (h : lift K W (dCellM g fa fr) σ H Q) : tBM K "list" r (lift K W fa) (liftA K W fr) σ H Q := by
  obtain ⟨n, Γ, μ, Qd, Ed, hH, sr, gr, h, hq, hx⟩ := h
  subst hH
  refine lift_go sr gr h (fun n1 x dx μ1 s1 r1 p1 q1 => ?_) hx
  cases p1 with
  | @ref l a hl =>
    dsimp only at q1
    split at q1
    · rename_i ys e
      obtain ⟨_, vs, h1, h2⟩ := r1.cell _ _ _ hl e
      refine ⟨.inl ⟨rfl, vs, SqL.of h1⟩, liftA_go r1 (gr.step s1) q1 (fun n2 vs2 ds2 μ2 s2 r2 p2 q2 => ?_) (hx.step s1)⟩
      try dsimp only at q2
      split at q2
      · rename_i xs e2
        have hl2 := pre_get s2.pre hl
        obtain ⟨hb, us, g1, g2⟩ := r2.cell _ _ _ hl2 e2
        split at q2
        · rename_i d zs e3
          refine hg n2.Hb n2.al n2.H a us vs2 xs ds2 d zs Q g1 g2 p2 e3 fun v ws rv rw' => ?_
          exact hq (n2.more a (.lst ws)) v d _ ((s1.trans s2).trans (Step.write hl2)) (r2.write hl2 hb (c := .lst zs) ⟨hb, ws, upd_same, rw'⟩ (fun k z => by cases z)) rv q2
        · exact q2.elim
      · exact q2.elim
    · exact q1.elim
  | _ => exact q1.elim
def cAppend : List D → List D → Option (D × List D) := fun xs ds => match ds with
  | [d] => if xs.length < sizeLine then some (.non, xs ++ [d]) else none
  | _ => none
theorem op_append {K : PySem.W.Frag} : CellOp K rAppend cAppend := fun Hb al H p us vs xs ds d ys Q hp r1 r2 hg k => by
  unfold cAppend at hg
  split at hg
  · split at hg
    · rename_i hl
      cases hg
      cases r2 with
      | cons q1 q2 =>
        cases q2
        exact ⟨p, us, _, rfl, rfl, hp, by rw [r1.length]; exact hl, k _ _ .non (r1.append (.cons q1 .nil))⟩
    · cases hg
  · cases hg
def cPop : List D → List D → Option (D × List D) := fun xs ds => match ds with
  | [.int i] => if -(2 ^ 63) ≤ i ∧ i < 2 ^ 63 then (match seqIndex? i xs.length with
    | some k => (xs[k]?).map fun y => (y, xs.eraseIdx k)
    | none => none) else none
  | _ => none
theorem op_popAt {K : PySem.W.Frag} : CellOp K rPopAt cPop := fun Hb al H p us vs xs ds d ys Q hp r1 r2 hg k => by
  unfold cPop at hg
  split at hg
  · split at hg
    · rename_i i hb
      split at hg
      · rename_i j e
        rw [Option.map_eq_some_iff] at hg
        obtain ⟨y, e2, e3⟩ := hg
        cases e3
        obtain ⟨v, h1, h2⟩ := r1.get e2
        cases r2 with
        | cons q1 q2 =>
          cases q2; cases q1
          exact ⟨p, us, i, j, v, rfl, rfl, hp, hb.1, hb.2, by rw [r1.length]; exact e, h1, k _ _ h2 (r1.eraseIdx j)⟩
      · cases hg
    · cases hg
  · cases hg
theorem de_append (ho : DE X W o fa) (ha : DE X W e fb) (hbase : attributeBase o "append" X.env (eval o X.env) = eval o X.env := by rfl)
    (hfew : ((backTo pos (starEach [e] X.env)).all (fun x => !x.1) && (backToKw pos (keywordEach [] X.env)).all (fun x => x.1.isSome) && decide ([e].length + ([] : List Keyword).length + (if ([] : List Keyword).isEmpty then 0 else 1) < 30)) = true := by rfl)
    (hline : (apos.endLine == pos.line) = true := by rfl) (hs : starEach [e] X.env = (false, eval e X.env) :: starEach [] X.env := by rfl) (hpl : (backTo pos (starEach [] X.env)).any (·.1) = false := by rfl) :
    DE X W (.Call (.Attribute o "append" apos) [e] [] pos) (dCellM cAppend fa (dCons fb dNil)) :=
  PE.imp (pe_bm PySem.F.plainAttrs_list PySem.F.slot_list_append PySem.F.type_list_append mt_append ho (da_cons ha da_nil hs) hbase hfew hline hs hpl) fun σ H Q h => cellm_go op_append σ H Q h
theorem de_popAt (ho : DE X W o fa) (ha : DE X W e fb) (hbase : attributeBase o "pop" X.env (eval o X.env) = eval o X.env := by rfl)
    (hfew : ((backTo pos (starEach [e] X.env)).all (fun x => !x.1) && (backToKw pos (keywordEach [] X.env)).all (fun x => x.1.isSome) && decide ([e].length + ([] : List Keyword).length + (if ([] : List Keyword).isEmpty then 0 else 1) < 30)) = true := by rfl)
    (hline : (apos.endLine == pos.line) = true := by rfl) (hs : starEach [e] X.env = (false, eval e X.env) :: starEach [] X.env := by rfl) (hpl : (backTo pos (starEach [] X.env)).any (·.1) = false := by rfl) :
    DE X W (.Call (.Attribute o "pop" apos) [e] [] pos) (dCellM cPop fa (dCons fb dNil)) :=
  PE.imp (pe_bm PySem.F.plainAttrs_list PySem.F.slot_list_pop PySem.F.type_list_pop mt_popAt ho (da_cons ha da_nil hs) hbase hfew hline hs hpl) fun σ H Q h => cellm_go op_popAt σ H Q h
/-! ### x[i] = v on a cell -/
def dSetI (fo fi : DTE) : DTG := fun d Γ μ Q E => fo Γ μ (fun x μ1 => fi Γ μ1 (fun i μ2 => match x, i with
  | .ref l, .int k => (match μ2[l]? with
    | some (.lst xs) => (match ixN xs.length k with | some j => Q Γ (μ2.set l (.lst (xs.set j d))) | none => False)
    | _ => False)
  | _, _ => False) E) E
theorem dg_setI {i : Expr} (ho : DE X W o fa) (hi : DE X W i fb) (h : PG X (.Subscript o i pos) (gSub (lift X.K W fa) (lift X.K W fb) rSetL)) : DG X W (.Subscript o i pos) (dSetI fa fb) := PG.imp h fun v σ H Q ⟨n, d, Γ, μ, Qd, Ed, hH, sr, gr, rp, h, hq, hx⟩ => by
  subst hH
  refine lift_go sr gr h (fun n1 x dx μ1 s1 r1 p1 q1 => lift_go r1 (gr.step s1) q1 (fun n2 y dy μ2 s2 r2 p2 q2 => ?_) (hx.step s1)) hx
  cases p1 with
  | @ref l a hl =>
    cases p2 with
    | int k =>
      dsimp only at q2
      split at q2
      · rename_i xs e
        split at q2
        · rename_i j e2
          have hl2 := pre_get s2.pre hl
          obtain ⟨hb, us, g1, g2⟩ := r2.cell _ _ _ hl2 e
          refine ⟨a, us, k, j, rfl, rfl, g1, by rw [g2.length]; exact e2, ?_⟩
          exact hq (n2.more a (.lst (us.set j v))) Γ σ _ ((s1.trans s2).trans (Step.write hl2)) (r2.write hl2 hb (c := .lst (xs.set j d)) ⟨hb, _, upd_same, Reps.set ((s1.trans s2).rep rp) j g2⟩ (fun k z => by cases z)) ((gr.step (s1.trans s2)).step (Step.write hl2)) q2
        · exact q2.elim
      · exact q2.elim
    | _ => exact q2.elim
  | _ => exact q2.elim
end
end DV
namespace DV
open PySem PySem.Spec PyProof.Rows L2
/-! ### slices -/
def cutL {α : Type} (xs : List α) (lo hi : Option Int) : List α := (xs.drop (HT.sIx xs.length 0 lo)).take (HT.sIx xs.length xs.length hi - HT.sIx xs.length 0 lo)
theorem reps_cut {K : PySem.W.Frag} {Hb : Hp} {al : List Addr} {vs : List V} {ds : List D} (r : Reps K Hb al vs ds) (lo hi : Option Int) : Reps K Hb al (cutV vs lo hi) (cutL ds lo hi) := by
  unfold cutV cutL
  rw [r.length]
  exact (r.drop _).take _
abbrev DTO := Gam → Mu → (Option Int → Mu → Prop) → (Exn → Mu → Prop) → Prop
def dNoPart : DTO := fun _ μ Q _ => Q none μ
def dPart (f : DTE) : DTO := fun Γ μ Q E => f Γ μ (fun d μ1 => match d with | .int i => Q (some i) μ1 | _ => False) E
def liftO (K : PySem.W.Frag) (W : WX) (f : DTO) : TO := fun σ H Q => ∃ n Γ μ Qd Ed, n.H = H ∧ SR0 K n μ ∧ GR K n Γ σ ∧ f Γ μ Qd Ed ∧
  (∀ n' o μ', Step n n' → SR0 K n' μ' → Qd o μ' → Q o n'.H) ∧ XLink K W n Γ σ Ed
def dSlice (fz : Bool) (f : DTE) (lo hi : DTO) : DTE := fun Γ μ Q E => f Γ μ (fun d μ1 => lo Γ μ1 (fun l μ2 => hi Γ μ2 (fun h μ3 => match lk μ3 d with
  | .lst xs => dFin fz (cutL xs l h) μ3 Q
  | .tup xs => Q (.tup (cutL xs l h)) μ3
  | .str z => z.length ≤ sizeLine ∧ Q (.str (cutS z l h)) μ3
  | _ => False) E) E) E
theorem cut_whole {α : Type} (xs : List α) (lo hi : Option Int) (h : HT.sIx xs.length 0 lo = 0 ∧ HT.sIx xs.length xs.length hi = xs.length) : cutL xs lo hi = xs := by
  unfold cutL
  rw [h.1, h.2]; simp
section
variable {X : Cx} {W : WX} {a e o i : Expr} {lo hi : Option Expr} {p2 pos : Pos} {fa fb fc : DTE} {fl fh : DTO}
theorem do_none : PO X none (liftO X.K W dNoPart) := ⟨fun pins s σ H Q I ⟨n, Γ, μ, Qd, Ed, hH, sr, gr, h, hq, hx⟩ => by
  subst hH
  exact (po_none (X := X)).run pins s σ n.H Q I (hq n none μ (Step.refl n) sr h)⟩
theorem do_some (h : DE X W e fa) : PO X (some e) (liftO X.K W (dPart fa)) := ⟨fun pins s σ H Q I ⟨n, Γ, μ, Qd, Ed, hH, sr, gr, hd, hq, hx⟩ => by
  subst hH
  refine (po_some h).run pins s σ n.H Q I (lift_go sr gr hd (fun n1 x dx μ1 s1 r1 p1 q1 => ?_) hx)
  cases p1 with
  | int j => exact ⟨j, rfl, hq n1 _ μ1 s1 r1 q1⟩
  | _ => exact q1.elim⟩
theorem de_slice (fz : Bool) (he : DE X W e fa) (hl : PO X lo (liftO X.K W fl)) (hu : PO X hi (liftO X.K W fh)) : DE X W (.Subscript e (.Slice lo hi none p2) pos) (dSlice fz fa fl fh) :=
  PE.imp (pe_slice (SlR.or sl_list (SlR.or sl_tupA sl_str)) he hl hu) fun σ H Q ⟨n, Γ, μ, Qd, Ed, hH, sr, gr, h, hq, hx⟩ => by
  subst hH
  refine lift_go sr gr h (fun n1 x dx μ1 s1 r1 p1 q1 => ⟨n1, Γ, μ1, _, _, rfl, r1, gr.step s1, q1, fun n2 l μ2 s2 r2 q2 => ⟨n2, Γ, μ2, _, _, rfl, r2, (gr.step s1).step s2, q2, fun n3 h μ3 s3 r3 q3 => ?_, (hx.step s1).step s2⟩, hx.step s1⟩) hx
  have st := (s1.trans s2).trans s3
  have p3 := (s2.trans s3).rep p1
  try dsimp only at q3
  split at q3
  · rename_i xs e
    obtain ⟨a, vs, rfl, h1, h2⟩ := see_lst r3 p3 e
    exact .inl ⟨a, vs, rfl, SqL.of h1, fun p hp => fin_lst (LV.step hq st) r3 hp (reps_cut h2 l h) q3⟩
  · rename_i xs e
    obtain ⟨a, vs, rfl, h1, h0, h2⟩ := see_tup r3 p3 e
    refine .inr (.inl ⟨a, vs, rfl, SqT.of h1, fun z => ?_, fun z p hp => new_tup (LV.step hq st) r3 hp (reps_cut h2 l h) q3⟩)
    rw [h2.length] at z
    rw [cut_whole xs l h z] at q3
    exact hq n3 _ _ μ3 st r3 (.tup h0 h2) q3
  · rename_i z e
    rw [lk_str e] at p3
    cases p3
    exact .inr (.inr ⟨z, rfl, q3.1, hq n3 _ _ μ3 st r3 (.str _) q3.2⟩)
  · exact q3.elim
/-! ### x[i] += e, on a cell -/
theorem pget_list : PGet X (fun o i H Q => ∃ p xs k v, o = .ref p ∧ i = .int k ∧ SqL X.K H p xs ∧ 0 ≤ k ∧ xs[k.toNat]? = some v ∧ Q v H) := by
  intro pins s σ H o i ov iv Q I ro ri h
  obtain ⟨p, xs, k, v, rfl, rfl, hq, h0, he, q⟩ := h
  cases ro
  obtain ⟨t, rfl⟩ := ri
  obtain ⟨its, r, pl, hz⟩ := I.list hq
  obtain ⟨u, eu, ru⟩ := r.get he
  have hl := r.length
  have hn := line63
  have hk : k.toNat < xs.length := (List.getElem?_eq_some_iff.mp he).1
  exact wpAny_getItem_list pl.isList h0 (by omega) (by simpa using eu) ⟨v, H, I, ru, q⟩
def dAugI (g : Int → Int → Int) (fo fi fe : DTE) : DTS := fun D Γ μ => fo Γ μ (fun x μ1 => fi Γ μ1 (fun i μ2 => match x, i with
  | .ref l, .int k => 0 ≤ k ∧ (match μ2[l]? with
    | some (.lst xs) => (match xs[k.toNat]? with
      | some (.int old) => fe Γ μ2 (fun y μ3 => match y with
        | .int b => (match μ3[l]? with
          | some (.lst ys) => k.toNat < ys.length ∧ D.nx Γ (μ3.set l (.lst (ys.set k.toNat (.int (g old b)))))
          | _ => False)
        | _ => False) (fun x μ1 => D.ex x Γ μ1)
      | _ => False)
    | _ => False)
  | _, _ => False) (fun x μ1 => D.ex x Γ μ1)) (fun x μ1 => D.ex x Γ μ1)
theorem ds_augI {g : Int → Int → Int} {op : Operator} {tpos : Pos} (ho : DE X W o fa) (hi : DE X W i fb) (he : DE X W e fc) (hp : PIp X op (ipI g)) (ha : ∀ ov iv new, augStore i ov iv new = (do holding [new, ov, iv] (setItem ov iv new); release [new, ov, iv] []; pure .next) := by intros; rfl) :
    DS X W (.AugAssign (.Subscript o i tpos) op e pos) (dAugI g fa fb fc) := PS.imp (ps_augS ho hi pget_list he hp set_list ha) fun Dn σ H ⟨A, n, Γ, μ, Dd, hH, sa, sr, gr, h, l⟩ => by
  subst hH
  have hx := l.x sa gr
  refine lift_go sr gr h (fun n1 x dx μ1 s1 r1 p1 q1 => lift_go r1 (gr.step s1) q1 (fun n2 y dy μ2 s2 r2 p2 q2 => ?_) (hx.step s1)) hx
  cases p1 with
  | @ref m a hl =>
    cases p2 with
    | int k =>
      obtain ⟨h0, q2⟩ := q2
      split at q2
      · rename_i xs e
        split at q2
        · rename_i old e2
          have hl2 := pre_get s2.pre hl
          obtain ⟨hb, us, g1, g2⟩ := r2.cell _ _ _ hl2 e
          obtain ⟨v, e3, e4⟩ := g2.get e2
          refine ⟨a, us, k, v, rfl, rfl, SqL.of g1, h0, e3, ?_⟩
          refine lift_go r2 ((gr.step s1).step s2) q2 (fun n3 z dz μ3 s3 r3 p3 q3 => ?_) ((hx.step s1).step s2)
          cases p3 with
          | int b =>
            cases e4
            refine ⟨old, b, rfl, rfl, ?_⟩
            dsimp only at q3
            split at q3
            · rename_i ys e5
              have hl3 := pre_get s3.pre hl2
              obtain ⟨hb3, ws, g3, g4⟩ := r3.cell _ _ _ hl3 e5
              refine ⟨a, ws, k, k.toNat, rfl, rfl, g3, ?_, ?_⟩
              · unfold ixN
                rw [if_pos h0, if_pos (by rw [g4.length]; omega)]
              · have st := ((sa.trans s1).trans s2).trans s3
                exact l.nx (n3.more a (.lst (ws.set k.toNat (.int (g old b))))) Γ σ _ (st.trans (Step.write hl3)) (r3.write hl3 hb3 (c := .lst (ys.set k.toNat (.int (g old b)))) ⟨hb3, _, upd_same, Reps.set (.int _) _ g4⟩ (fun k z => by cases z)) ((((gr.step s1).step s2).step s3).step (Step.write hl3)) q3.2
            · exact q3.elim
          | _ => exact q3.elim
        · exact q2.elim
      · exact q2.elim
    | _ => exact q2.elim
  | _ => exact q2.elim
/-! ### tests by truth -/
def truD : D → Option Bool
  | .non => some false
  | .bl b => some b
  | .int i => some (i != 0)
  | .lst xs => some (!xs.isEmpty)
  | .tup xs => some (!xs.isEmpty)
  | _ => none
def dTruth (f : DTE) : DTT := fun Γ μ Q E => f Γ μ (fun d μ1 => match lk μ1 d with
  | .str z => z.length ≤ sizeLine ∧ Q ((z.length : Int) != 0) μ1
  | d' => (match truD d' with | some b => Q b μ1 | none => False)) E
end
end DV
namespace DV
open PySem PySem.Spec PyProof.Rows L2
def pick {α : Type} (π : List Nat) (l : List α) : List α := π.filterMap (l[·]?)
section
variable {K : PySem.W.Frag} {Hb : Hp} {al : List Addr}
theorem Reps.getN : ∀ {vs : List V} {ds : List D} {i : Nat}, Reps K Hb al vs ds → ds[i]? = none → vs[i]? = none := fun {vs ds i} r e => by
  have h1 := r.length
  have h2 : ds.length ≤ i := List.getElem?_eq_none_iff.mp e
  exact List.getElem?_eq_none_iff.mpr (by omega)
theorem Reps.pick {vs : List V} {ds : List D} (r : Reps K Hb al vs ds) : ∀ π : List Nat, Reps K Hb al (DV.pick π vs) (DV.pick π ds)
  | [] => .nil
  | i :: π => by
    have ih := Reps.pick r π
    unfold DV.pick at ih ⊢
    cases e : ds[i]? with
    | none => rw [List.filterMap_cons_none e, List.filterMap_cons_none (r.getN e)]; exact ih
    | some d =>
      obtain ⟨v, h1, h2⟩ := r.get e
      rw [List.filterMap_cons_some e, List.filterMap_cons_some h1]
      exact .cons h2 ih
end
theorem vals_pick {vs : List V} {us : List Value} (r : Vals vs us) : ∀ π : List Nat, Vals (pick π vs) (pick π us)
  | [] => .nil
  | i :: π => by
    have ih := vals_pick r π
    unfold pick at ih ⊢
    cases e : vs[i]? with
    | none => rw [List.filterMap_cons_none e, List.filterMap_cons_none (Vals.none_of r e)]; exact ih
    | some d =>
      obtain ⟨v, h1, h2⟩ := Vals.get r e
      rw [List.filterMap_cons_some e, List.filterMap_cons_some h1]
      exact .cons h2 ih
/-- how positional arguments (np of them) and keywords ks come to the parameters ps: by places -/
def KBd (K : PySem.W.Frag) (fd : FuncData) (ps : List Str) (np : Nat) (ks : List Str) (π : List Nat) : Prop :=
  ∀ (s : Shared) (us ws : List Value), K.In s.heap → us.length = np → ws.length = ks.length → BindsTo s fd ⟨us, ks.zip ws⟩ (ps.zip (pick π (us ++ ws)))
section
variable {X : Cx} {W : WX} {k : Nat} {f : Addr} {fd : FuncData} {ps ks : List Str} {S : DSp} {x : Str} {p pos kpos : Pos} {e : Expr} {es : List Expr} {kws : List Keyword} {fa : DTE} {fr fk : DTA} {nm : Option Str} {π : List Nat} {np : Nat}
theorem run_deep {pins : List (Addr × Obj)} {σ : L2.St} {H : Hp} {s : Shared} {Q : VK} {us ws : List Value} {kw : List (Str × Value)} {vs : List V} (F : FnOk X.prog X.w X.K X.mg X.base (L2.CX X.prog X.w) k f fd ps (spOf X.K S)) (hr : Room k X.A) (tk : Takes X W)
    (I : Inv X pins σ H s) (hb : BindsTo s fd ⟨us, kw⟩ (ps.zip ws)) (r : Vals vs ws) (h : spOf X.K S vs H Q (WE W σ)) : wpAny (model X.prog X.w) X.A (call (.ref f) us kw) (EP X pins σ Q) X.xe s := by
  refine wpAny_call (codeAny_mono (F.run X.A X.stack s H ⟨us, kw⟩ ws vs Q (WE W σ) hr I.env0 hb r h) ?_)
  intro res s' hq
  match res, hq with
  | .error e, hq => exact passAt tk σ pins H s e s' I hq
  | .ok (.ret u), hq => exact I.after hq
theorem de_call0 (F : FnOk X.prog X.w X.K X.mg X.base (L2.CX X.prog X.w) k f fd [] (spOf X.K S)) (hr : Room k X.A) (hg : Gl X x) (hm : X.mg x = some (.ref f)) (hk : PySem.W.keepIn X.K (.ref f) = true) (hb : Binds X.K fd [] []) (tk : Takes X W) (hdb : (x == ("__debug__" : Str)) = false := by decide) :
    DE X W (.Call (.Name x p) [] [] pos) (dOp S dNil) := by
  refine ⟨fun pins s σ H Q I ⟨n, Γ, μ, Qd, Ed, hH, sr, gr, h, hq, hx⟩ => ?_⟩
  subst hH
  refine wpAny_Call_Name_kw (ld_glob I hg hm ?_ hdb)
  exact PySem.W.callWith_K0 I.kIn hk (run_deep (ws := []) F hr tk I (hb s [] I.kIn rfl) .nil ⟨n, [], μ, Qd, Ed, rfl, sr, .nil, h, hq, fun n' cls dd y μ' s' r' => hx n' cls dd y μ' s' r'⟩)
abbrev DK (X : Cx) (W : WX) (kws : List Keyword) (f : DTA) : Prop := PK X kws (liftA X.K W f)
theorem PK.imp {t t' : TA} (h : PK X kws t) (hi : ∀ σ H Q, t' σ H Q → t σ H Q) : PK X kws t' := ⟨fun pos pins s σ H Q I q => h.run pos pins s σ H Q I (hi _ _ _ q)⟩
theorem dk_nil : DK X W [] dNil := PK.imp pk_nil fun σ H Q ⟨n, Γ, μ, Qd, Ed, hH, sr, gr, h, hq, hx⟩ => by
  subst hH
  exact hq n [] [] μ (Step.refl n) sr .nil h
theorem dk_cons (ha : DE X W e fa) (hr : DK X W kws fr) : DK X W (⟨nm, e, kpos⟩ :: kws) (dCons fa fr) := PK.imp (pk_cons ha hr) fun σ H Q ⟨n, Γ, μ, Qd, Ed, hH, sr, gr, h, hq, hx⟩ => by
  subst hH
  refine lift_go sr gr h (fun n1 x dx μ1 s1 r1 p1 q1 => liftA_go r1 (gr.step s1) q1 (fun n2 y dy μ2 s2 r2 p2 q2 => ?_) (hx.step s1)) hx
  exact hq n2 _ _ μ2 (s1.trans s2) r2 (.cons (s2.rep p1) p2) q2
/-- f(e, .., k = v, ..): the arguments by the places π -/
def dOpK (S : DSp) (π : List Nat) (np nk : Nat) (fr fk : DTA) : DTE := fun Γ μ Q E => fr Γ μ (fun xs μ1 => xs.length = np ∧ fk Γ μ1 (fun ys μ2 => ys.length = nk ∧ S (pick π (xs ++ ys)) μ2 Q E) E) E
end
end DV
namespace DV
open PySem PySem.Spec PyProof.Rows L2
def revS (z : Str) : Str := ⟨z.cps.toList.reverse.toArray⟩
theorem range_rev (l : List Nat) : ((List.range l.length).map fun k => l.length - 1 - k).filterMap (l[·]?) = l.reverse := by
  have e : ((List.range l.length).map fun k => l.length - 1 - k) = (List.range l.length).reverse := by
    apply List.ext_getElem (by simp)
    intro i h1 h2
    simp
  rw [e, List.filterMap_reverse]
  congr 1
  apply List.ext_getElem?
  intro i
  have : (List.range l.length).filterMap (l[·]?) = l := by
    clear e i
    induction l with
    | nil => rfl
    | cons a l ih =>
      rw [List.length_cons, List.range_succ_eq_map, List.filterMap_cons_some (b := a) (by simp), List.filterMap_map]
      congr 1
  rw [this]
def tRevA (K : PySem.W.Frag) (te : TE) : TE := fun σ H Q => te σ H fun x H1 => (∃ a xs, x = .ref a ∧ SqL K H1 a xs ∧ ∀ p, H1 p = none → Q (.ref p) (upd H1 p (.lst xs.reverse))) ∨ ∃ z, x = .str z ∧ z.length ≤ sizeLine ∧ Q (.str (revS z)) H1
section
variable {X : Cx} {W : WX} {e : Expr} {k : Nat} {q1 q2 q3 pos : Pos} {fa : DTE}
theorem pe_revA {te : TE} (he : PE X e te) : PE X (.Subscript e (.Slice none none (some (.UnaryOp .USub (.Constant (.int 1) k q1) q2)) q3) pos) (tRevA X.K te) := by
  constructor
  intro pins s σ H Q I h
  apply Subscript_
  refine thn (he.run pins s σ H _ I h) ?_
  rintro v s1 ⟨x, H1, I1, r1, qq⟩
  have stp : PO X (some (.UnaryOp .USub (.Constant (.int 1) k q1) q2)) (tPart (tUn (rU fun i => .int (-i)) (tC (.int 1)))) :=
    po_some (pe_un un_neg pe_int)
  apply wpAny_Slice
  refine thn (po_none.run pins s1 σ H1 (fun o H2 => o = none ∧ H2 = H1) I1 ⟨rfl, rfl⟩) ?_
  rintro vl s2 ⟨l, H2, I2, pl, rfl, rfl⟩
  refine thn (po_none.run pins s2 σ H2 (fun o H3 => o = none ∧ H3 = H2) I2 ⟨rfl, rfl⟩) ?_
  rintro vu s3 ⟨u, H3, I3, pu, rfl, rfl⟩
  refine thn (stp.run pins s3 σ H3 (fun o H4 => o = some (-1) ∧ H4 = H3) I3 ⟨1, rfl, -1, rfl, rfl, rfl⟩) ?_
  rintro vs s4 ⟨o, H4, I4, psx, rfl, rfl⟩
  have I5 : Inv X pins σ H4 { s4 with heap := s4.heap.push { cls := .type "slice", data := .fields #[vl, vu, vs] } } :=
    I4.kept (t' := s4.toks) (fun b ob q => Heap.get?_push_of_some _ q)
  rcases qq with ⟨a, xs, rfl, hx, q⟩ | ⟨z, rfl, hz, q⟩
  · cases r1
    obtain ⟨its, r, ht, hz⟩ := I5.list hx
    have hlen := r.length
    refine tail_any (ops := [.ref a, .ref s4.heap.objs.size]) ht.isList.typeIs (PySem.slot_list_getitem.lookup) ?_ (by with_unfolding_all rfl)
    refine wpAny_getItem_list_slice ht.isList (Heap.IsSliceOf.new _ vl vu vs) pl pu psx (by decide) ?_ (by rw [List.size_toArray]; omega)
    rw [PySem.W.krv_pick]
    refine ⟨.ref _, _, I5.laid (t' := s4.toks) (o := .lst xs.reverse) (fun b ob q => Heap.get?_push_of_some _ q) (Nat.le_refl _) ?_, rfl,
      q _ (I5.hok.fresh (Nat.le_refl _))⟩
    exact ⟨by rw [List.length_reverse]; exact hz, _, 0, r.reverse, Heap.get?_push_size _ rfl⟩
  · obtain ⟨t, rfl⟩ := r1
    refine tail_any (ops := [.str z t, .ref s4.heap.objs.size]) (typeIs_str _ _ _) F.slot_str_getitem.lookup ?_ (by with_unfolding_all rfl)
    obtain ⟨l, rfl, el⟩ := IsPart.raw pl
    obtain ⟨u, rfl, eu⟩ := IsPart.raw pu
    obtain ⟨sv, rfl, es⟩ := IsPart.raw psx
    obtain ⟨os, h1, h2, h3⟩ := Heap.IsSliceOf.new s4.heap (partValue l) (partValue u) (partValue sv)
    refine wpAny_getItem_str_slice (l := l) (u := u) (st := sv) ⟨os, h1, h2, h3⟩ (by rw [es]; rfl) ?_
    have hn : ¬ (((sv.map (·.1)).getD 1 == 1 && (slicePicked z l u sv).length == z.length) = true) := by rw [es]; simp
    have hp : (slicePicked z l u sv).filterMap (z.cps[·]?) = z.cps.toList.reverse := by
      unfold slicePicked
      rw [el, eu, es]
      show (Builtin.Str.strSliceIndices none none (-1) z.length).filterMap (z.cps[·]?) = _
      rw [picked_rev]
      have := range_rev z.cps.toList
      rw [Array.length_toList] at this
      show (List.map (fun k => z.cps.size - 1 - k) (List.range z.cps.size)).filterMap (z.cps[·]?) = _
      simpa using this
    unfold sliceMade
    rw [if_neg hn, hp]
    have hl : (revS z).length ≤ sizeLine := by
      show (z.cps.toList.reverse.toArray).size ≤ sizeLine
      rw [List.size_toArray, List.length_reverse]; exact hz
    exact ⟨hl, .str (revS z), H4, I5.tok _, ⟨_, rfl⟩, q⟩
def dRevA (fz : Bool) (f : DTE) : DTE := fun Γ μ Q E => f Γ μ (fun d μ1 => match lk μ1 d with
  | .lst xs => dFin fz xs.reverse μ1 Q
  | .str z => z.length ≤ sizeLine ∧ Q (.str (revS z)) μ1
  | _ => False) E
theorem de_revA (fz : Bool) (he : DE X W e fa) : DE X W (.Subscript e (.Slice none none (some (.UnaryOp .USub (.Constant (.int 1) k q1) q2)) q3) pos) (dRevA fz fa) :=
  PE.imp (pe_revA he) fun σ H Q ⟨n, Γ, μ, Qd, Ed, hH, sr, gr, h, hq, hx⟩ => by
  subst hH
  refine lift_go sr gr h (fun n1 x dx μ1 s1 r1 p1 q1 => ?_) hx
  try dsimp only at q1
  split at q1
  · rename_i xs e
    obtain ⟨a, vs, rfl, h1, h2⟩ := see_lst r1 p1 e
    exact .inl ⟨a, vs, rfl, SqL.of h1, fun p hp => fin_lst (LV.step hq s1) r1 hp h2.reverse q1⟩
  · rename_i z e
    rw [lk_str e] at p1
    cases p1
    exact .inr ⟨z, rfl, q1.1, hq n1 _ _ μ1 s1 r1 (.str _) q1.2⟩
  · exact q1.elim
end
/-! ### a def as its callers see it -/
def Has (P : Program) (w : World) (K : PySem.W.Frag) (mg : Str → Option Value) (base : Heap) (x : Str) (k : Nat) (ps : List Str) (S : DSp) (kb : FuncData → Prop) : Prop :=
  ∃ (f : Addr) (fd : FuncData), mg x = some (.ref f) ∧ PySem.W.keepIn K (.ref f) = true ∧ Binds K fd ps [] ∧ kb fd ∧ FnOk P w K mg base (L2.CX P w) k f fd ps (spOf K S)
section
variable {X : Cx} {W : WX} {k : Nat} {ps ks : List Str} {S : DSp} {kb : FuncData → Prop} {x : Str} {p pos : Pos} {e : Expr} {es : List Expr} {kws : List Keyword} {fr fk : DTA} {π : List Nat} {np nk : Nat}
theorem de_fnH (h : Has X.prog X.w X.K X.mg X.base x k ps S kb) (hr : Room k X.A) (hg : Gl X x) (tk : Takes X W) (ha : DA X W (e :: es) fr) (hdb : (x == ("__debug__" : Str)) = false := by decide)
    (he : starEach (e :: es) X.env = (false, eval e X.env) :: starEach es X.env := by rfl) (hpl : (backTo pos (starEach es X.env)).any (·.1) = false := by rfl) : DE X W (.Call (.Name x p) (e :: es) [] pos) (dOp S fr) := by
  obtain ⟨f, fd, h1, h2, h3, _, h5⟩ := h
  exact de_fn h5 hr hg h1 h2 h3 tk ha hdb he hpl
theorem de_c0H (h : Has X.prog X.w X.K X.mg X.base x k [] S kb) (hr : Room k X.A) (hg : Gl X x) (tk : Takes X W) (hdb : (x == ("__debug__" : Str)) = false := by decide) : DE X W (.Call (.Name x p) [] [] pos) (dOp S dNil) := by
  obtain ⟨f, fd, h1, h2, h3, _, h5⟩ := h
  exact de_call0 h5 hr hg h1 h2 h3 tk hdb
end
end DV
namespace DV
open PySem PySem.Spec PyProof.Rows L2
theorem atI_nat' {α : Type} {xs : List α} {i : Int} {d : α} (h0 : 0 ≤ i) (h : xs[i.toNat]? = some d) : atI xs i = some d := by
  have hl := (List.getElem?_eq_some_iff.mp h).1
  unfold atI ixN
  rw [if_pos h0, if_pos (by omega)]
  exact h
theorem atI_zero {α : Type} {x : α} {xs : List α} : atI (x :: xs) 0 = some x := atI_nat' (by decide) rfl
theorem sgn_one (c : Nat) : sgn ⟨#[c]⟩ = some c := rfl
end DV
local macro_rules | `(tactic| walk_at "dv") => `(tactic| try simp only [DV.dSeq, DV.dIf, DV.dOrT, DV.dAndT, DV.dNotT, DV.dTest, DV.dChain, DV.dC, DV.dCall, DV.gLen, DV.dCons, DV.dVar, DV.dNil, DV.dBin, DV.dUn, DV.gNeg, DV.gIn, DV.gIx, DV.dRet, DV.dRetN, DV.dNext, DV.dFor, DV.dIter, DV.dName, DV.lk, DV.dAsg, DV.dDrop, DV.gLst, DV.gTup, DV.gLstM, DV.gAdd, DV.gI, DV.gMod, DV.gMul, DV.gFdiv, DV.gPow, DV.gAbs, DV.gInt, DV.gList, DV.gTuple, DV.dOp, DV.dOpK, DV.dIsi, DV.tyD, DV.gIs, DV.gIsNot, DV.D.isN, DV.dJoin, DV.dCellM, DV.dSetI, DV.dSlice, DV.dPart, DV.dNoPart, DV.dRevA, DV.dFin, DV.dAugI, DV.dComp, DV.wipeG, DV.cName, DV.cPair, DV.dYes, DV.dRange1, DV.dRange2, DV.dAnd, DV.dOr, DV.dNot, DV.dIfE, DV.gEq, DV.gNe, DV.sgn_one, DV.atI_zero, DV.dTruth, DV.truD, DV.dBreak, DV.dCont,
  List.getElem?_cons_zero, List.getElem?_cons_succ, List.set_cons_zero, List.set_cons_succ, List.map_cons, List.map_nil, List.length_cons, List.length_nil, List.replicate, List.cons_append, List.nil_append, DV.start0, if_true, if_false, Bool.not_true, Bool.not_false, Bool.false_eq_true, Bool.true_and, Bool.and_true, Bool.or_true, Bool.true_or, Bool.false_or, Bool.or_false, eq_self_iff_true, not_true_eq_false, not_false_eq_true, ite_true, ite_false, cond_true, cond_false])
namespace DV
open PySem PySem.Spec PyProof.Rows L2
def LET : Str := "abcdefghijklmnopqrstuvwxyz"
def DIG : Str := "0123456789"
def t_valid_name : DTS := dSeq (dIf (dOrT (dNotT (dTest (dChain (fun i j => decide (i ≤ j)) (fun i j => decide (i ≤ j)) (dC (.int 1)) (dCall gLen (dCons (dVar 0) dNil)) (dC (.int 6))))) (dTest (dBin (gIn true) (dBin gIx (dVar 0) (dC (.int 0))) (dC (.str "abcdefghijklmnopqrstuvwxyz"))))) (dRet (dC (.bl false))) (dNext)) (dSeq (dFor (dIter (dVar 0)) (dName 1) (dIf (dAndT (dTest (dBin (gIn true) (dVar 1) (dC (.str "abcdefghijklmnopqrstuvwxyz")))) (dTest (dBin (gIn true) (dVar 1) (dC (.str "0123456789"))))) (dRet (dC (.bl false))) (dNext))) (dRet (dC (.bl true))))
/-- a name, by its code points -/
def isLet (c : Nat) : Bool := decide (c ∈ LET.cps.toList)
def isAln (c : Nat) : Bool := decide (c ∈ LET.cps.toList) || decide (c ∈ DIG.cps.toList)
def validC (l : List Nat) : Bool := decide (1 ≤ l.length) && decide (l.length ≤ 6) && (match l with | c :: _ => isLet c | [] => false) && l.all isAln
def validN (z : Str) : Bool := validC z.cps.toList
def S_valid_name : DSp := fun ds μ Q _ => ∃ z, ds = [.str z] ∧ z.length ≤ sizeLine ∧ Q (.bl (validN z)) μ
theorem lp_valid {z : Str} {De : DEnds} {μ : Mu} : ∀ (l : List Nat) (x : Option D), (l.all isAln = true → ∀ y, De.nx [some (.str z), y] μ) → (l.all isAln = false → De.rt (.bl false) μ) →
    dLoop none (dName 1) (dIf (dAndT (dTest (dBin (gIn true) (dVar 1) (dC (.str "abcdefghijklmnopqrstuvwxyz")))) (dTest (dBin (gIn true) (dVar 1) (dC (.str "0123456789"))))) (dRet (dC (.bl false))) dNext) (l.map fun c => D.str ⟨#[c]⟩) De [some (.str z), x] μ
  | [], x, h1, _ => ⟨trivial, h1 rfl x⟩
  | c :: l, x, h1, h2 => by
    have ih := lp_valid l (some (.str ⟨#[c]⟩)) (z := z) (De := De) (μ := μ)
    have e : isAln c = (decide (c ∈ (Str.ofString "abcdefghijklmnopqrstuvwxyz").cps.toList) || decide (c ∈ (Str.ofString "0123456789").cps.toList)) := rfl
    rw [List.map_cons, dLoop]
    refine ⟨trivial, ?_⟩
    walk_at "dv"
    rw [List.all_cons] at h1 h2
    cases e1 : decide (c ∈ (Str.ofString "abcdefghijklmnopqrstuvwxyz").cps.toList) with
    | true =>
      rw [e1, Bool.true_or] at e
      rw [e, Bool.true_and] at h1 h2
      walk_at "dv"
      exact ih h1 h2
    | false =>
      walk_at "dv"
      cases e2 : decide (c ∈ (Str.ofString "0123456789").cps.toList) with
      | true =>
        rw [e1, e2, Bool.false_or] at e
        rw [e, Bool.true_and] at h1 h2
        walk_at "dv"
        exact ih h1 h2
      | false =>
        rw [e1, e2, Bool.false_or] at e
        rw [e, Bool.false_and] at h2
        walk_at "dv"
        exact h2 rfl
theorem rd_valid_name : ∀ ds μ Q E, S_valid_name ds μ Q E → t_valid_name (dFn μ Q E) (start0 ["text", "char"] ds) μ := by
  rintro _ μ Q E ⟨z, rfl, hz, q⟩
  unfold t_valid_name
  walk_at "dv"
  refine ⟨hz, ?_⟩
  unfold validN validC at q
  have hl : z.length = z.cps.toList.length := by rw [Array.length_toList]; rfl
  cases hc : z.cps.toList with
  | nil =>
    rw [hc] at hl q
    rw [hl]
    exact FnEnd.here q
  | cons c l =>
    rw [hc] at hl q
    rw [hl]
    by_cases h6 : (c :: l).length ≤ 6
    · have a1 : decide (1 ≤ (((c :: l).length : Nat) : Int)) = true := decide_eq_true (by simp; omega)
      have a2 : decide ((((c :: l).length : Nat) : Int) ≤ 6) = true := decide_eq_true (by omega)
      have b1 : decide (1 ≤ (c :: l).length) = true := decide_eq_true (by simp)
      rw [b1, decide_eq_true h6] at q
      rw [a1, a2]
      walk_at "dv"
      have q : Q (D.bl (isLet c && (c :: l).all isAln)) μ := q
      refine ⟨by have := hz; rw [hl] at this; simpa using this, ?_⟩
      have e0 : isLet c = decide (c ∈ (Str.ofString "abcdefghijklmnopqrstuvwxyz").cps.toList) := rfl
      cases e1 : decide (c ∈ (Str.ofString "abcdefghijklmnopqrstuvwxyz").cps.toList) with
      | false =>
        rw [e1] at e0
        walk_at "dv"
        rw [e0] at q
        exact FnEnd.here (by simpa using q)
      | true =>
        rw [e1] at e0
        walk_at "dv"
        rw [e0] at q
        unfold signs
        rw [hc]
        refine lp_valid (c :: l) none (fun h y => FnEnd.here ?_) (fun h => FnEnd.here ?_)
        · rw [h] at q; exact q
        · rw [h] at q; exact q
    · have a2 : decide ((((c :: l).length : Nat) : Int) ≤ 6) = false := decide_eq_false (by omega)
      have a1 : decide (1 ≤ (((c :: l).length : Nat) : Int)) = true := decide_eq_true (by simp; omega)
      rw [a1, a2]
      walk_at "dv"
      rw [decide_eq_false h6] at q
      exact FnEnd.here (by simpa using q)
end DV
namespace DV
open PySem PySem.Spec PyProof.Rows L2
def t_draw : DTS := dSeq (dAugI (fun i j => i + j) (dVar 0) (dC (.int 2)) (dC (.int 1))) (dSeq (dWhile (dAndT (dTest (dBin gNe (dBin gIx (dVar 0) (dC (.int 0))) (dCall gLst (dNil)))) (dTest (dBin gEq (dBin gIx (dBin gIx (dVar 0) (dC (.int 0))) (dC (.int 0))) (dC (.int 0))))) (dAsg (dSlice false (dBin gIx (dVar 0) (dC (.int 0))) (dPart (dC (.int 1))) dNoPart) (dSetI (dVar 0) (dC (.int 0))))) (dSeq (dIf (dTest (dBin gNe (dBin gIx (dVar 0) (dC (.int 0))) (dCall gLst (dNil)))) (dSeq (dAsg (dBin gMod (dCall gInt (dCons (dBin gIx (dBin gIx (dVar 0) (dC (.int 0))) (dC (.int 0))) dNil)) (dVar 1)) (dName 2)) (dSeq (dAsg (dBin gFdiv (dBin gIx (dBin gIx (dVar 0) (dC (.int 0))) (dC (.int 0))) (dVar 1)) (dSetI (dBin gIx (dVar 0) (dC (.int 0))) (dC (.int 0)))) (dRet (dVar 2)))) (dNext)) (dSeq (dAsg (dBin gMod (dCall gInt (dCons (dBin gIx (dBin gIx (dVar 0) (dC (.int 1))) (dBin gMod (dCall gInt (dCons (dBin gIx (dVar 0) (dC (.int 2))) dNil)) (dCall gLen (dCons (dBin gIx (dVar 0) (dC (.int 1))) dNil)))) dNil)) (dC (.int 2147483647))) (dName 3)) (dSeq (dAsg (dBin gMod (dCall gInt (dCons (dBin gPow (dBin gAdd (dBin gAdd (dBin gMul (dVar 3) (dC (.int 48271))) (dBin gMul (dBin gIx (dVar 0) (dC (.int 2))) (dC (.int 69621)))) (dC (.int 7))) (dC (.int 5))) dNil)) (dC (.int 2147483647))) (dName 4)) (dRet (dBin gMod (dBin gMod (dCall gInt (dCons (dBin gPow (dBin gAdd (dBin gAdd (dBin gMul (dVar 4) (dC (.int 16807))) (dBin gMul (dBin gIx (dVar 0) (dC (.int 2))) (dC (.int 40692)))) (dC (.int 13))) (dC (.int 5))) dNil)) (dC (.int 2147483629))) (dVar 1)))))))
structure StA (μ : Mu) (l l0 l1 : Nat) (k : Int) (xs ys : List Int) : Prop where
  c : μ[l]? = some (.lst [.ref l0, .ref l1, .int k])
  c0 : μ[l0]? = some (.lst (xs.map .int))
  c1 : μ[l1]? = some (.lst (ys.map .int))
  n0 : l ≠ l0
  n1 : l ≠ l1
  n01 : l0 ≠ l1
theorem okn_ints (k : Nat) (xs : List Int) : D.okn (k + 1) (.lst (xs.map D.int)) = true := by
  simp [D.okn]
theorem eqv_nil (xs : List Int) (k : Nat) : PyData.eqv (D.py (k + 1) (.lst (xs.map D.int))) (D.py (k + 1) (.lst [])) = xs.isEmpty := by
  cases xs with
  | nil => simp [D.py, PyData.eqv, PyData.eqvAll]
  | cons x xs => simp [D.py, PyData.eqv, PyData.eqvAll]
theorem deq_int (μ : Mu) (i j : Int) : deq μ (.int i) (.int j) = decide (i = j) := by
  show PyData.eqv (.int i) (.int j) = _
  simp only [PyData.eqv]
  rfl
theorem deqOk_int (μ : Mu) (i j : Int) : deqOk μ (.int i) (.int j) := ⟨rfl, rfl⟩
theorem lk_cell {μ : Mu} {l : Nat} {xs : List D} (h : μ[l]? = some (.lst xs)) : lk μ (.ref l) = .lst xs := by
  unfold lk; dsimp only; rw [h]
theorem deq_nil {μ : Mu} {l : Nat} {xs : List Int} (h : μ[l]? = some (.lst (xs.map .int))) : deqOk μ (.ref l) (.lst []) ∧ deq μ (.ref l) (.lst []) = xs.isEmpty := by
  unfold deqOk deq
  rw [lk_cell h]
  exact ⟨⟨okn_ints 11 xs, rfl⟩, eqv_nil xs 11⟩
/-- what a draw leaves of the other cells -/
def FrA (μ : Mu) (l l0 : Nat) (μ' : Mu) (l0' : Nat) : Prop := μ.length ≤ μ'.length ∧ (∀ i, i < μ.length → i ≠ l → i ≠ l0 → μ'[i]? = μ[i]?) ∧ (∃ zs, μ'[l0]? = some (.lst zs)) ∧ (l0' = l0 ∨ μ.length ≤ l0')
def S_drawE : DSp := fun ds μ Q _ => ∃ l l0 l1 k xs ys m, ds = [.ref l, .int m] ∧ StA μ l l0 l1 k xs ys ∧ 0 < m ∧ m.natAbs.log2 < 9000 ∧ 0 ≤ k ∧ k + 1 ≤ 1099511627776 ∧ (∀ x ∈ xs, 0 ≤ x) ∧ ys ≠ [] ∧
  ∀ d μ' l0' xs', 0 ≤ d → d < m → StA μ' l l0' l1 (k + 1) xs' ys → xs'.length ≤ xs.length → (∀ x ∈ xs', 0 ≤ x) → FrA μ l l0 μ' l0' → Q (.int d) μ'
def bodyA : DTS := dAsg (dSlice false (dBin gIx (dVar 0) (dC (.int 0))) (dPart (dC (.int 1))) dNoPart) (dSetI (dVar 0) (dC (.int 0)))
def testA : DTT := dAndT (dTest (dBin gNe (dBin gIx (dVar 0) (dC (.int 0))) (dCall gLst (dNil)))) (dTest (dBin gEq (dBin gIx (dBin gIx (dVar 0) (dC (.int 0))) (dC (.int 0))) (dC (.int 0))))
theorem StA.ix0 {μ : Mu} {l l0 l1 : Nat} {k : Int} {xs ys : List Int} (h : StA μ l l0 l1 k xs ys) (Q : D → Mu → Prop) : gIx (.ref l) (.int 0) μ Q = Q (.ref l0) μ := by
  unfold gIx; rw [lk_cell h.c]; rfl
theorem StA.ix1 {μ : Mu} {l l0 l1 : Nat} {k : Int} {xs ys : List Int} (h : StA μ l l0 l1 k xs ys) (Q : D → Mu → Prop) : gIx (.ref l) (.int 1) μ Q = Q (.ref l1) μ := by
  unfold gIx; rw [lk_cell h.c]; rfl
theorem StA.ix2 {μ : Mu} {l l0 l1 : Nat} {k : Int} {xs ys : List Int} (h : StA μ l l0 l1 k xs ys) (Q : D → Mu → Prop) : gIx (.ref l) (.int 2) μ Q = Q (.int k) μ := by
  unfold gIx; rw [lk_cell h.c]; rfl
theorem StA.ix00 {μ : Mu} {l l0 l1 : Nat} {k x : Int} {xs ys : List Int} (h : StA μ l l0 l1 k (x :: xs) ys) (Q : D → Mu → Prop) : gIx (.ref l0) (.int 0) μ Q = Q (.int x) μ := by
  unfold gIx; rw [lk_cell h.c0]; simp only [List.map_cons, atI_zero]
theorem cut1 (x : Int) (xs : List Int) : cutL ((x :: xs).map D.int) (some 1) none = xs.map D.int := by
  have h1 : HT.sIx ((x :: xs).map D.int).length 0 (some 1) = 1 := by
    simp [HT.sIx]
  have h2 : HT.sIx ((x :: xs).map D.int).length ((x :: xs).map D.int).length none = xs.length + 1 := by simp [HT.sIx]
  unfold cutL
  rw [h1, h2]
  simp
  have := List.take_length (l := xs.map D.int)
  rwa [List.length_map] at this
theorem whileA {l l1 : Nat} {k : Int} {ys : List Int} {De : DEnds} {r : Gam} : ∀ (xs : List Int) (μ : Mu) (l0 : Nat), StA μ l l0 l1 k xs ys →
    (∀ μ' l0' xs', StA μ' l l0' l1 k xs' ys → (∀ x, xs'.head? = some x → x ≠ 0) → xs'.length ≤ xs.length → (∀ x ∈ xs', x ∈ xs) → μ.length ≤ μ'.length → (∀ i, i < μ.length → i ≠ l → μ'[i]? = μ[i]?) → (l0' = l0 ∨ μ.length ≤ l0') → De.nx (some (.ref l) :: r) μ') →
    dWhileN testA bodyA (xs.length + 1) De (some (.ref l) :: r) μ
  | [], μ, l0, h, k1 => by
    obtain ⟨o1, o2⟩ := deq_nil (xs := []) h.c0
    simp only [dWhileN, testA, dAndT, dTest, dBin, dVar, dC, dCall, dNil, gLst, List.getElem?_cons_zero, List.length_nil, h.ix0, gNe, o2]
    refine ⟨by decide, o1, ?_⟩
    simp only [List.isEmpty_nil, Bool.not_true, cond_false]
    exact k1 μ l0 [] h (by simp) (Nat.le_refl _) (by simp) (Nat.le_refl _) (fun _ _ _ => rfl) (.inl rfl)
  | x :: xs, μ, l0, h, k1 => by
    obtain ⟨o1, o2⟩ := deq_nil h.c0
    have hlt : l < μ.length := (List.getElem?_eq_some_iff.mp h.c).1
    have hlt0 : l0 < μ.length := (List.getElem?_eq_some_iff.mp h.c0).1
    have hlt1 : l1 < μ.length := (List.getElem?_eq_some_iff.mp h.c1).1
    rw [List.length_cons, dWhileN]
    simp only [testA, dAndT, dTest, dBin, dVar, dC, dCall, dNil, gLst, List.getElem?_cons_zero, List.length_nil, h.ix0, gNe, o2, List.isEmpty_cons, Bool.not_false, cond_true, h.ix00, gEq, deq_int]
    refine ⟨by decide, o1, deqOk_int _ _ _, ?_⟩
    by_cases hx : x = 0
    · rw [decide_eq_true hx, cond_true]
      -- state[0] = state[0][1:]
      simp only [bodyA, dAsg, dSlice, dBin, dVar, dC, dPart, dNoPart, List.getElem?_cons_zero, h.ix0, lk_cell h.c0, dFin, cut1]
      have g : (μ ++ [Cell.lst (xs.map D.int)])[l]? = some (.lst [.ref l0, .ref l1, .int k]) := by rw [List.getElem?_append_left hlt]; exact h.c
      simp only [dSetI, dVar, dC, List.getElem?_cons_zero, g]
      show match ixN 3 0 with | some j => _ | none => False
      show dWhileN testA bodyA (xs.length + 1) De (some (.ref l) :: r) ((μ ++ [Cell.lst (xs.map D.int)]).set l (.lst [.ref μ.length, .ref l1, .int k]))
      have ga : ∀ i, i < μ.length → i ≠ l → ((μ ++ [Cell.lst (xs.map D.int)]).set l (.lst [.ref μ.length, .ref l1, .int k]))[i]? = μ[i]? := fun i h1 h2 => by
        rw [List.getElem?_set_ne (Ne.symm h2), List.getElem?_append_left h1]
      refine whileA xs _ μ.length ⟨by rw [List.getElem?_set_self (by simp; omega)], by rw [List.getElem?_set_ne (by omega)]; simp, by rw [ga l1 hlt1 (Ne.symm h.n1)]; exact h.c1, by omega, h.n1, by omega⟩ fun μ' l0' xs' a1 a2 a3 a4 a5 a6 a7 => ?_
      rw [List.length_set, List.length_append] at a5 a7
      refine k1 μ' l0' xs' a1 a2 (by simp; omega) (fun y hy => by simp [a4 y hy]) (by simp at a5; omega) (fun i h1 h2 => ?_) ?_
      · rw [a6 i (by simp; omega) h2, ga i h1 h2]
      · rcases a7 with a7 | a7
        · exact .inr (by omega)
        · exact .inr (by simp at a7; omega)
    · rw [decide_eq_false hx, cond_false]
      exact k1 μ l0 (x :: xs) h (by simpa using hx) (Nat.le_refl _) (fun _ h => h) (Nat.le_refl _) (fun _ _ _ => rfl) (.inl rfl)
theorem fmod_lt {d m : Int} (h : 0 < m) : 0 ≤ d.fmod m ∧ d.fmod m < m := ⟨Int.fmod_nonneg_of_pos d h, Int.fmod_lt_of_pos d h⟩
theorem pow_ok {i : Int} (h : 0 ≤ i) (h2 : i < 18446744073709551616) : (0 : Int) ≤ 5 ∧ (5 : Int) ≤ 1000000 ∧ i.natAbs < 2 ^ 64 := ⟨by decide, by decide, by omega⟩
theorem rd_drawE : ∀ ds μ Q E, S_drawE ds μ Q E → t_draw (dFn μ Q E) (start0 ["_law_state", "_law_size", "_law_digit", "_law_cell", "_law_one"] ds) μ := by
  rintro _ μ Q E ⟨l, l0, l1, k, xs, ys, m, rfl, h, hm, hm2, hk0, hk1, hx0, hy, q⟩
  have hlt : l < μ.length := (List.getElem?_eq_some_iff.mp h.c).1
  unfold t_draw
  simp only [dSeq, dAugI, dVar, dC, start0, List.map_cons, List.map_nil, List.length_cons, List.length_nil, List.replicate, List.cons_append, List.nil_append, List.getElem?_cons_zero, h.c]
  refine ⟨by decide, ?_⟩
  show _ ∧ _
  refine ⟨by decide, ?_⟩
  have h1 : StA (μ.set l (.lst [.ref l0, .ref l1, .int (k + 1)])) l l0 l1 (k + 1) xs ys :=
    ⟨by rw [List.getElem?_set_self hlt], by rw [List.getElem?_set_ne h.n0]; exact h.c0, by rw [List.getElem?_set_ne h.n1]; exact h.c1, h.n0, h.n1, h.n01⟩
  refine ⟨xs.length + 1, whileA xs _ l0 h1 fun μ2 l2 xs2 h2 hh hle hin hl2 hf2 ho2 => ?_⟩
  rw [List.length_set] at hl2 ho2
  have hf2' : ∀ i, i < μ.length → i ≠ l → μ2[i]? = μ[i]? := fun i a b => by rw [hf2 i (by rw [List.length_set]; exact a) b, List.getElem?_set_ne (Ne.symm b)]
  have hlt0 : l0 < μ.length := (List.getElem?_eq_some_iff.mp h.c0).1
  obtain ⟨o1, o2⟩ := deq_nil h2.c0
  have hlt2 : l2 < μ2.length := (List.getElem?_eq_some_iff.mp h2.c0).1
  simp only [dSeq, dIf, dTest, dBin, dVar, dC, dCall, dNil, gLst, List.getElem?_cons_zero, List.length_nil, h2.ix0, gNe, o2]
  refine ⟨by decide, o1, ?_⟩
  cases xs2 with
  | cons x xs2 =>
    simp only [List.isEmpty_cons, Bool.not_false, cond_true, dSeq, dAsg, dBin, dCall, dCons, dNil, dVar, dC, List.getElem?_cons_zero, List.getElem?_cons_succ, h2.ix0, h2.ix00, gInt, gMod, gFdiv, dName, List.set_cons_succ, List.set_cons_zero, dSetI, h2.c0, dRet]
    refine ⟨by omega, ⟨hm, hm2⟩, ?_⟩
    have ix : ixN ((x :: xs2).map D.int).length 0 = some 0 := by
      unfold ixN
      rw [if_pos (by decide), if_pos (by simp)]; rfl
    simp only [ix]
    show FnEnd μ (.int (x.fmod m)) (μ2.set l2 (.lst ((D.int (x / m)) :: xs2.map D.int))) Q
    refine FnEnd.here (q _ _ l2 (x / m :: xs2) (fmod_lt hm).1 (fmod_lt hm).2 ⟨by rw [List.getElem?_set_ne (Ne.symm h2.n0)]; exact h2.c, by rw [List.getElem?_set_self hlt2]; rfl, by rw [List.getElem?_set_ne h2.n01]; exact h2.c1, h2.n0, h2.n1, h2.n01⟩ (by simpa using hle) (fun y hy => ?_) ⟨by rw [List.length_set]; exact hl2, fun i a b c => ?_, ?_, ho2⟩)
    · rcases List.mem_cons.mp hy with rfl | hy
      · exact Int.ediv_nonneg (hx0 x (hin x (by simp))) (by omega)
      · exact hx0 y (hin y (by simp [hy]))
    · rw [List.getElem?_set_ne (by rcases ho2 with z | z <;> omega)]
      exact hf2' i a b
    · by_cases e : l2 = l0
      · exact ⟨_, by rw [← e, List.getElem?_set_self hlt2]⟩
      · exact ⟨_, by rw [List.getElem?_set_ne e, hf2' l0 hlt0 (Ne.symm h.n0)]; exact h.c0⟩
  | nil =>
    simp only [List.isEmpty_nil, Bool.not_true, cond_false, dNext]
    -- the cell of the script at the count's place
    have hlen : 0 < ys.length := List.length_pos_iff.mpr hy
    obtain ⟨c, hc⟩ : ∃ c, atI (ys.map D.int) ((k + 1).fmod ((ys.map D.int).length : Int)) = some (D.int c) := by
      have b := fmod_lt (d := k + 1) (m := ((ys.map D.int).length : Int)) (by simp; omega)
      have hi : ((k + 1).fmod ((ys.map D.int).length : Int)).toNat < ys.length := by
        have := b.2; simp at this ⊢; omega
      exact ⟨ys[((k + 1).fmod ((ys.map D.int).length : Int)).toNat], atI_nat' b.1 (by rw [List.getElem?_map, List.getElem?_eq_getElem hi]; rfl)⟩
    have e1 : ∀ Q', gIx (.ref l1) (.int ((k + 1).fmod ((ys.map D.int).length : Int))) μ2 Q' = Q' (.int c) μ2 := fun Q' => by
      unfold gIx; rw [lk_cell h2.c1]; dsimp only; rw [hc]
    have hnz : ((ys.map D.int).length : Int) ≠ 0 := by simp; omega
    simp only [dSeq, dAsg, dBin, dCall, dCons, dNil, dVar, dC, List.getElem?_cons_zero, List.getElem?_cons_succ, h2.ix1, h2.ix2, gInt, gMod, gLen, lk_cell h2.c1, dName, List.set_cons_succ, List.set_cons_zero, e1]
    have bc := fmod_lt (d := c) (m := 2147483647) (by decide)
    generalize c.fmod 2147483647 = c' at bc ⊢
    refine ⟨hnz, by decide, ?_⟩
    simp only [gMul, lk, gAdd, gPow, dRet, dBin, dCall, dCons, dNil, dVar, dC, List.getElem?_cons_zero, List.getElem?_cons_succ, h2.ix2, gInt, gMod]
    refine ⟨.inr ⟨by decide, by decide⟩, .inr ⟨by decide, by decide⟩, pow_ok (by omega) (by omega), by decide, ?_⟩
    have bo := fmod_lt (d := (c' * 48271 + (k + 1) * 69621 + 7) ^ (5 : Int).toNat) (m := 2147483647) (by decide)
    generalize ((c' * 48271 + (k + 1) * 69621 + 7) ^ (5 : Int).toNat).fmod 2147483647 = c2 at bo ⊢
    refine ⟨.inr ⟨by decide, by decide⟩, .inr ⟨by decide, by decide⟩, pow_ok (by omega) (by omega), by decide, by omega, ?_⟩
    generalize ((c2 * 16807 + (k + 1) * 40692 + 13) ^ (5 : Int).toNat).fmod 2147483629 = c3
    refine FnEnd.here (q _ μ2 l2 [] (fmod_lt hm).1 (fmod_lt hm).2 h2 (by simp) (by simp) ⟨hl2, fun i a b _ => hf2' i a b, ⟨_, by rw [hf2' l0 hlt0 (Ne.symm h.n0)]; exact h.c0⟩, ho2⟩)
end DV
namespace DV
open PySem PySem.Spec PyProof.Rows L2
/-- a draw, as the law's defs see it: any number below the size; the oracle has one draw less -/
def S_draw : DSp := fun ds μ Q _ => ∃ l n m, ds = [.ref l, .int m] ∧ μ[l]? = some (.orc (n + 1, true)) ∧ 0 < m ∧ m.natAbs.log2 < 9000 ∧ ∀ d, 0 ≤ d → d < m → Q (.int d) (μ.set l (.orc (n, true)))
theorem reps_ref {K : PySem.W.Frag} {Hb : Hp} {al : List Addr} {vs : List V} {i j : Nat} {k : Int} (r : Reps K Hb al vs [.ref i, .ref j, .int k]) : ∃ a b, vs = [.ref a, .ref b, .int k] ∧ al[i]? = some a ∧ al[j]? = some b := by
  cases r with
  | cons h1 r =>
    cases r with
    | cons h2 r =>
      cases r with
      | cons h3 r =>
        cases r
        cases h1; cases h2; cases h3
        exact ⟨_, _, rfl, by assumption, by assumption⟩
theorem CellAt.sub {K : PySem.W.Frag} {n n' : Now} {a : Addr} {c : Cell} (h : CellAt K n a c) (ho : ∀ k, c ≠ .orc k) (ha : n'.H a = n.H a) (hb : n.Hb a = none → n'.Hb a = none) (s : Same n.Hb n'.Hb) (pr : n.al <+: n'.al) : CellAt K n' a c := by
  cases c with
  | gone => trivial
  | lst ds => obtain ⟨h0, vs, h1, h2⟩ := h; exact ⟨hb h0, vs, ha.trans h1, h2.mono s pr⟩
  | dct kvs => obtain ⟨h0, vs, h1, h2, h3⟩ := h; exact ⟨hb h0, vs, ha.trans h1, h2, h3.mono s pr⟩
  | ins C fs => obtain ⟨h0, dx, vs, h1, h2, h3⟩ := h; exact ⟨hb h0, dx, vs, ha.trans h1, h2, h3.mono s pr⟩
  | orc k => exact absurd rfl (ho k)
  | exc dd fs => obtain ⟨h0, he, us, h1, h2, h3⟩ := h; exact ⟨hb h0, he, us, ha.trans h1, h2, fun f v e => let ⟨d, e1, e2⟩ := h3 f v e; ⟨d, e1, e2.mono s pr⟩⟩
theorem CellAt.back {K : PySem.W.Frag} {n n' : Now} {a : Addr} {c : Cell} {ph : List Addr} (h0 : CellAt K n a c) (h : CellAt K n' a c) (ho : ∀ k, c ≠ .orc k) (pr : n.al <+: n'.al) : CellAt K ⟨n'.Hb, n'.H, n.al, ph⟩ a c := by
  cases c with
  | gone => trivial
  | lst ds => obtain ⟨_, _, _, z⟩ := h0; obtain ⟨h0, vs, h1, h2⟩ := h; exact ⟨h0, vs, h1, Reps.back pr z h2⟩
  | dct kvs => obtain ⟨_, _, _, _, z⟩ := h0; obtain ⟨h0, vs, h1, h2, h3⟩ := h; exact ⟨h0, vs, h1, h2, Reps.back pr z h3⟩
  | ins C fs => obtain ⟨_, _, _, _, _, z⟩ := h0; obtain ⟨h0, dx, vs, h1, h2, h3⟩ := h; exact ⟨h0, dx, vs, h1, h2, Reps.back pr z h3⟩
  | orc k => exact absurd rfl (ho k)
  | exc dd fs => obtain ⟨_, _, us0, _, h5, h4⟩ := h0; obtain ⟨h0, he, us, h1, h2, h3⟩ := h; exact ⟨h0, he, us, h1, h2, exc_back pr h5 h4 h3⟩
theorem get_app2 {α : Type} {l : List α} {x y : α} : (l ++ [x, y])[l.length]? = some x ∧ (l ++ [x, y])[l.length + 1]? = some y := by
  constructor
  · rw [List.getElem?_append_right (Nat.le_refl _)]; simp
  · rw [List.getElem?_append_right (by omega)]; simp
theorem get_app2_lt {α : Type} {l : List α} {x y z : α} {i : Nat} (h : (l ++ [x, y])[i]? = some z) : (i < l.length ∧ l[i]? = some z) ∨ (i = l.length ∧ z = x) ∨ (i = l.length + 1 ∧ z = y) := by
  by_cases hi : i < l.length
  · rw [List.getElem?_append_left hi] at h; exact .inl ⟨hi, h⟩
  · have hl := (List.getElem?_eq_some_iff.mp h).1
    simp at hl
    by_cases h2 : i = l.length
    · subst h2; rw [get_app2.1] at h; cases h; exact .inr (.inl ⟨rfl, rfl⟩)
    · have h3 : i = l.length + 1 := by omega
      subst h3; rw [get_app2.2] at h; cases h; exact .inr (.inr ⟨rfl, rfl⟩)
theorem draw_orc {K : PySem.W.Frag} (vs : List V) (H : Hp) (Q : VK) (E : XK) (h : spOf K S_draw vs H Q E) : spOf K S_drawE vs H Q E := by
  obtain ⟨n, ds, μ, Qd, Ed, hH, sr, rp, ⟨l, c, m, rfl, hl, hm, hm2, q⟩, hq, hx⟩ := h
  subst hH
  have hll : l < n.al.length := by rw [sr.len]; exact (List.getElem?_eq_some_iff.mp hl).1
  obtain ⟨a, ha⟩ : ∃ a, n.al[l]? = some a := ⟨n.al[l], List.getElem?_eq_getElem hll⟩
  obtain ⟨hba, oa⟩ := sr.cell l a _ ha hl
  obtain ⟨a0, xs, y, k, hbb, e2, e3, e4, e5, e6⟩ := oa
  have e6' := e6.resolve_right (fun z => by cases z.1)
  obtain ⟨_, b1, ys, rfl, f2, f3, f4, f5, f6, f7⟩ := e6'
  have p0 := sr.phb a0 (by rw [f2]; simp)
  have p1 := sr.phb b1 (by rw [f2]; simp)
  have na0 : a ≠ a0 := fun z => p0.2.1 (z ▸ List.mem_of_getElem? ha)
  have noc : ∀ (i : Nat) c', μ[i]? = some c' → i ≠ l → ∀ k, c' ≠ .orc k := fun i c' h1 h2 k z => by
    subst z; exact h2 (sr.orc1 i l k _ h1 hl)
  -- the explicit state
  have hpre : n.al <+: n.al ++ [a0, b1] := List.prefix_append _ _
  have lenL : n.al.length = μ.length := sr.len
  let μE : Mu := (μ.set l (.lst [.ref μ.length, .ref (μ.length + 1), .int k])) ++ [.lst (xs.map .int), .lst (ys.map .int)]
  let nE : Now := ⟨n.Hb, n.H, n.al ++ [a0, b1], []⟩
  have gE : ∀ {i : Nat} {z : Addr}, (n.al ++ [a0, b1])[i]? = some z → (i < μ.length ∧ n.al[i]? = some z) ∨ (i = μ.length ∧ z = a0) ∨ (i = μ.length + 1 ∧ z = b1) := fun h => by
    have := get_app2_lt h; rw [lenL] at this; exact this
  have lE : (μ.set l (.lst [.ref μ.length, .ref (μ.length + 1), .int k])).length = μ.length := List.length_set
  have srE : SR0 K nE μE := by
    refine ⟨sr.same, by show (n.al ++ [a0, b1]).length = _; simp [μE, lenL], ?_, fun i z c' h1 h2 => ?_, fun z hz => ?_, fun i j x y h1 h2 => ?_, fun b hb => by cases hb⟩
    · show (n.al ++ [a0, b1]).Nodup
      rw [List.nodup_append]
      refine ⟨sr.nd, by simp [Ne.symm f3], fun z hz u hu e => ?_⟩
      simp at hu
      rcases hu with rfl | rfl
      · exact p0.2.1 (e ▸ hz)
      · exact p1.2.1 (e ▸ hz)
    · rcases gE h1 with ⟨hi, h1⟩ | ⟨rfl, rfl⟩ | ⟨rfl, rfl⟩
      · have h2' : (μ.set l (.lst [.ref μ.length, .ref (μ.length + 1), .int k]))[i]? = some c' := by
          rw [← h2]; exact (List.getElem?_append_left (by rw [lE]; exact hi)).symm
        by_cases e : i = l
        · subst e
          rw [ha] at h1; cases h1
          rw [List.getElem?_set_self hi] at h2'; cases h2'
          refine ⟨hba, _, hbb, .cons (.ref ?_) (.cons (.ref ?_) (.cons (.int _) .nil))⟩
          · show (n.al ++ [a0, b1])[μ.length]? = _
            rw [← lenL]; exact get_app2.1
          · show (n.al ++ [a0, b1])[μ.length + 1]? = _
            rw [← lenL]; exact get_app2.2
        · rw [List.getElem?_set_ne (Ne.symm e)] at h2'
          exact (sr.cell i z c' h1 h2').sub (n' := nE) (noc i c' h2' e) rfl (fun x => x) (Same.refl _) hpre
      · have h2' : μE[μ.length]? = some (.lst (xs.map .int)) := by
          have := (get_app2 (l := μ.set l (.lst [.ref μ.length, .ref (μ.length + 1), .int k])) (x := Cell.lst (xs.map .int)) (y := Cell.lst (ys.map .int))).1
          rwa [lE] at this
        rw [h2'] at h2; cases h2
        exact ⟨p0.1, _, e2, reps_ints xs⟩
      · have h2' : μE[μ.length + 1]? = some (.lst (ys.map .int)) := by
          have := (get_app2 (l := μ.set l (.lst [.ref μ.length, .ref (μ.length + 1), .int k])) (x := Cell.lst (xs.map .int)) (y := Cell.lst (ys.map .int))).2
          rwa [lE] at this
        rw [h2'] at h2; cases h2
        exact ⟨p1.1, _, f5, reps_ints ys⟩
    · rcases List.mem_append.mp hz with hz | hz
      · exact sr.alh z hz
      · simp at hz
        rcases hz with rfl | rfl
        · exact p0.2.2
        · exact p1.2.2
    · exfalso
      rcases get_app2_lt h1 with ⟨hi, h1⟩ | ⟨_, z⟩ | ⟨_, z⟩
      · by_cases e : i = l
        · subst e
          rw [List.getElem?_set_self (by rw [lE] at hi; exact hi)] at h1; cases h1
        · rw [List.getElem?_set_ne (Ne.symm e)] at h1
          exact noc i _ h1 e x rfl
      · cases z
      · cases z
  have stE : StA μE l μ.length (μ.length + 1) k xs ys := by
    have hl' : l < μ.length := (List.getElem?_eq_some_iff.mp hl).1
    refine ⟨?_, ?_, ?_, by omega, by omega, by omega⟩
    · show (_ ++ _)[l]? = _
      rw [List.getElem?_append_left (by rw [lE]; exact hl'), List.getElem?_set_self hl']
    · have := (get_app2 (l := μ.set l (.lst [.ref μ.length, .ref (μ.length + 1), .int k])) (x := Cell.lst (xs.map .int)) (y := Cell.lst (ys.map .int))).1
      rwa [lE] at this
    · have := (get_app2 (l := μ.set l (.lst [.ref μ.length, .ref (μ.length + 1), .int k])) (x := Cell.lst (xs.map .int)) (y := Cell.lst (ys.map .int))).2
      rwa [lE] at this
  have lenE : μE.length = μ.length + 2 := by simp [μE]
  refine ⟨nE, _, μE, fun d μ' => ∃ i l0' xs', d = .int i ∧ 0 ≤ i ∧ i < m ∧ StA μ' l l0' (μ.length + 1) (k + 1) xs' ys ∧ xs'.length ≤ xs.length ∧ (∀ x ∈ xs', 0 ≤ x) ∧ FrA μE l μ.length μ' l0', fun _ _ => False, rfl, srE, rp.mono (Same.refl _) hpre,
    ⟨l, μ.length, μ.length + 1, k, xs, ys, m, rfl, stE, hm, hm2, e4, by have : k + ((c + 1 : Nat) : Int) ≤ 1099511627776 := e5; omega, f4, f6, fun d μ' l0' xs' a1 a2 a3 a4 a5 a6 => ⟨d, l0', xs', rfl, a1, a2, a3, a4, a5, a6⟩⟩, ?_, ?_⟩
  · rintro n' v d μ' s' r' rv ⟨i, l0', xs', rfl, i0, i1, st, hle, hnn, ⟨g1, g2, ⟨zs, g3⟩, g4⟩⟩
    cases rv
    have hal : n.al <+: n'.al := hpre.trans s'.pre
    have l'len : n'.al.length = μ'.length := r'.len
    obtain ⟨_, us, u1, u2⟩ := r'.cell l a _ (pre_get hal ha) st.c
    obtain ⟨a0', a1', rfl, w0, w1⟩ := reps_ref u2
    have w1' : a1' = b1 := by
      have : n'.al[μ.length + 1]? = some b1 := pre_get s'.pre (by show (n.al ++ [a0, b1])[μ.length + 1]? = _; rw [← lenL]; exact get_app2.2)
      rw [w1] at this; cases this; rfl
    subst w1'
    obtain ⟨hb0, us0, v0, v1⟩ := r'.cell l0' a0' _ w0 st.c0
    obtain ⟨hb1, us1, v2, v3⟩ := r'.cell (μ.length + 1) a1' _ w1 st.c1
    have hbo : n'.Hb a0 = none := by
      obtain ⟨z, _⟩ := r'.cell μ.length a0 _ (pre_get s'.pre (by show (n.al ++ [a0, a1'])[μ.length]? = _; rw [← lenL]; exact get_app2.1)) g3
      exact z
    have nin : ∀ (j : Nat) (z : Addr), μ.length ≤ j → n'.al[j]? = some z → z ∉ n.al := fun j z hj e hz => by
      obtain ⟨i', hi', ei⟩ := List.getElem_of_mem hz
      have e1 : n.al[i']? = some z := by rw [List.getElem?_eq_getElem hi', ei]
      have := nodup_get r'.nd (pre_get hal e1) e
      omega
    have hl0 : μ.length ≤ l0' := by rcases g4 with z | z <;> omega
    have new0 : a0' ∈ n.ph ∨ n.H a0' = none := by
      rcases g4 with z | z
      · subst z
        have : n'.al[μ.length]? = some a0 := pre_get s'.pre (by show (n.al ++ [a0, a1'])[μ.length]? = _; rw [← lenL]; exact get_app2.1)
        rw [w0] at this; cases this
        exact .inl (by rw [f2]; simp)
      · rcases s'.newa a0' (List.mem_of_getElem? w0) with y | y
        · exfalso
          obtain ⟨i', hi', ei⟩ := List.getElem_of_mem y
          have hi2 : i' < (n.al ++ [a0, a1']).length := hi'
          have e1 : n'.al[i']? = some a0' := pre_get s'.pre (by rw [List.getElem?_eq_getElem hi', ei])
          have := nodup_get r'.nd e1 w0
          simp at hi2
          omega
        · exact .inr y
    have stp : Step n ⟨n'.Hb, n'.H, n.al, [a0', a1']⟩ := by
      refine ⟨s'.same, List.prefix_refl _, fun b o e => ?_, fun b h => .inl h, fun b hb => ?_, fun b o e h0 h1 h2 => s'.keep b o e h0 (fun z => ?_) (fun z => by cases z), s'.dom⟩
      · rcases s'.newb b o e with z | z | z
        · exact .inl z
        · exact .inr (.inl z)
        · rcases List.mem_append.mp z with z | z
          · exact .inr (.inr z)
          · simp at z
            rcases z with rfl | rfl
            · rw [hbo] at e; cases e
            · rw [hb1] at e; cases e
      · simp at hb
        rcases hb with rfl | rfl
        · exact new0
        · exact .inl (by rw [f2]; simp)
      · rcases List.mem_append.mp z with z | z
        · exact h1 z
        · rw [f2] at h2; exact h2 z
    refine hq ⟨n'.Hb, n'.H, n.al, [a0', a1']⟩ _ (.int i) (μ.set l (.orc (c, true))) stp ?_ (.int i) (q i i0 i1)
    refine ⟨r'.same, by rw [List.length_set]; exact lenL, sr.nd, fun j z c' h1 h2 => ?_, fun z hz => r'.alh z (hal.subset hz), fun i' j x y h1 h2 => ?_, fun b hb => ?_⟩
    · have h1 : n.al[j]? = some z := h1
      by_cases e : j = l
      · subst e
        rw [ha] at h1; cases h1
        rw [List.getElem?_set_self (by rw [← lenL]; exact hll)] at h2; cases h2
        refine ⟨?_, a0', xs', _, k + 1, u1, ?_, by omega, by omega, by show k + 1 + (c : Int) ≤ _; have : k + ((c + 1 : Nat) : Int) ≤ 1099511627776 := e5; omega, .inl ⟨rfl, a1', ys, rfl, rfl, fun z => ?_, hnn, ?_, f6, f7⟩⟩
        · obtain ⟨z, _⟩ := r'.cell j _ _ (pre_get hal ha) st.c; exact z
        · have := Reps.ints xs' v1; subst this; exact v0
        · subst z; exact st.n01 (nodup_get r'.nd w0 w1)
        · have := Reps.ints ys v3; subst this; exact v2
      · rw [List.getElem?_set_ne (Ne.symm e)] at h2
        have hj : j < μ.length := (List.getElem?_eq_some_iff.mp h2).1
        have h2' : μ'[j]? = some c' := by
          rw [g2 j (by omega) e (by omega)]
          show (_ ++ _)[j]? = _
          rw [List.getElem?_append_left (by rw [lE]; exact hj), List.getElem?_set_ne (Ne.symm e)]; exact h2
        exact (sr.cell j z c' h1 h2).back (r'.cell j z c' (pre_get hal h1) h2') (noc j c' h2 e) hal
    · have qq : ∀ (i : Nat) x, (μ.set l (.orc (c, true)))[i]? = some (.orc x) → i = l := fun i x e => by
        by_cases e' : i = l
        · exact e'
        · rw [List.getElem?_set_ne (Ne.symm e')] at e
          exact absurd rfl (noc i _ e e' x)
      rw [qq i' x h1, qq j y h2]
    · simp at hb
      rcases hb with rfl | rfl
      · exact ⟨hb0, nin l0' _ hl0 w0, by show n'.H _ ≠ none; rw [v0]; simp⟩
      · exact ⟨hb1, nin _ _ (by omega) w1, by show n'.H _ ≠ none; rw [v2]; simp⟩
  · exact fun n' cls dd x μ' s' r' ex q' => q'.elim
end DV
namespace DV
open PySem PySem.Spec PyProof.Rows L2
def t_start : DTS := dRet (dCall gLstM (dCons (dComp false [1] (dIter (dVar 0)) (cName 1) (dTest (dBin (gI fun i j => .bl (decide (j ≤ i))) (dCall gAbs (dCons (dVar 1) dNil)) (dBin gPow (dC (.int 10)) (dC (.int 18))))) (dCall gAbs (dCons (dVar 1) dNil))) (dCons (dBin gAddM (dCall (gList true) (dCons (dVar 0) dNil)) (dCall gLst (dCons (dC (.int 5)) dNil))) (dCons (dC (.int 0)) dNil))))
def S_startE : DSp := fun ds μ Q _ => ∃ ns : List Int, ds = [.scr ns] ∧ ns.length ≤ 63 ∧ ∀ xs ys : List Int, xs.length ≤ 100 → (∀ x ∈ xs, 0 ≤ x) → ys ≠ [] → ys.length ≤ 100 →
  Q (.ref (μ.length + 2)) (μ ++ [.lst (xs.map .int), .lst (ys.map .int), .lst [.ref μ.length, .ref (μ.length + 1), .int 0]])
theorem compStart {Γ : Gam} {μ : Mu} {Q : List D → Mu → Prop} : ∀ (ns : List Int) (acc : List Int), acc.length + ns.length ≤ 100 → (∀ x ∈ acc, 0 ≤ x) → (∀ xs : List Int, xs.length ≤ 100 → (∀ x ∈ xs, 0 ≤ x) → Q (xs.map .int) μ) → 1 < Γ.length →
    dCompL none (cName 1) (dTest (dBin (gI fun i j => .bl (decide (j ≤ i))) (dCall gAbs (dCons (dVar 1) dNil)) (dBin gPow (dC (.int 10)) (dC (.int 18))))) (dCall gAbs (dCons (dVar 1) dNil)) Γ (ns.map .int) (acc.map .int) μ Q
  | [], acc, h1, h2, q, hg => ⟨trivial, q acc (by simpa using h1) h2⟩
  | n :: ns, acc, h1, h2, q, hg => by
    rw [List.length_cons] at h1
    have g1 : (Γ.set 1 (some (D.int n)))[1]? = some (some (.int n)) := List.getElem?_set_self hg
    refine ⟨trivial, ?_⟩
    simp only [cName, dTest, dBin, dCall, dCons, dNil, dVar, g1, gAbs, dC, gPow, gI]
    refine ⟨by decide, ?_⟩
    cases decide ((10 : Int) ^ (18 : Int).toNat ≤ if n < 0 then -n else n) with
    | false => exact compStart ns acc (by omega) h2 q hg
    | true =>
      refine ⟨by rw [List.length_map, sizeLine_eq]; omega, ?_⟩
      have e : acc.map D.int ++ [D.int (if n < 0 then -n else n)] = (acc ++ [if n < 0 then -n else n]).map D.int := by simp
      rw [e]
      refine compStart ns _ (by simp; omega) (fun x hx => ?_) q hg
      rcases List.mem_append.mp hx with hx | hx
      · exact h2 x hx
      · rw [List.mem_singleton.mp hx]; split <;> omega
theorem rd_startE : ∀ ds μ Q E, S_startE ds μ Q E → t_start (dFn μ Q E) (start0 ["_law_script", "_law_cell"] ds) μ := by
  rintro _ μ Q E ⟨ns, rfl, hn, q⟩
  simp only [t_start, dRet, dCall, dCons, dComp, dIter, dVar, start0, List.map_cons, List.map_nil, List.length_cons, List.length_nil, List.replicate, List.cons_append, List.nil_append, List.getElem?_cons_zero]
  refine compStart ns [] (by simp; omega) (by simp) (fun xs hx hx0 => ?_) (by simp [wipeG])
  simp only [dFin, dBin, dCall, gList, dCons, dNil, dVar, List.getElem?_cons_zero, lk, dC, gLst, gAddM, gLstM, dFin]
  refine ⟨by decide, ?_, ?_, ?_⟩
  · rw [List.length_map, sizeLine_eq]; simp; omega
  · show 3 ≤ sizeLine
    rw [sizeLine_eq]; decide
  · refine FnEnd.here ?_
    have := q xs (ns ++ [5]) hx hx0 (by simp) (by simp; omega)
    simpa using this
/-- the law's state: an oracle of 2 ^ 40 draws -/
def S_start : DSp := fun ds μ Q _ => ∃ ns : List Int, ds = [.scr ns] ∧ ns.length ≤ 63 ∧ (∀ (i : Nat) k, μ[i]? ≠ some (.orc k)) ∧ Q (.ref μ.length) (μ ++ [.orc (1099511627776, true)])
theorem start_orc {K : PySem.W.Frag} (vs : List V) (H : Hp) (Q : VK) (E : XK) (h : spOf K S_start vs H Q E) : spOf K S_startE vs H Q E := by
  obtain ⟨n, ds, μ, Qd, Ed, hH, sr, rp, ⟨ns, rfl, hn, hno, q⟩, hq, hx⟩ := h
  subst hH
  refine ⟨n, _, μ, fun d μ' => ∃ xs ys : List Int, d = .ref (μ.length + 2) ∧ μ' = μ ++ [.lst (xs.map .int), .lst (ys.map .int), .lst [.ref μ.length, .ref (μ.length + 1), .int 0]] ∧ xs.length ≤ 100 ∧ (∀ x ∈ xs, 0 ≤ x) ∧ ys ≠ [] ∧ ys.length ≤ 100, fun _ _ => False, rfl, sr, rp,
    ⟨ns, rfl, hn, fun xs ys a1 a2 a3 a4 => ⟨xs, ys, rfl, rfl, a1, a2, a3, a4⟩⟩, ?_, fun _ _ _ _ _ _ _ _ z => z.elim⟩
  rintro n' v d μ' s' r' rv ⟨xs, ys, rfl, rfl, hx1, hx2, hy1, hy2⟩
  have g : ∀ j c, [Cell.lst (xs.map D.int), Cell.lst (ys.map D.int), Cell.lst [D.ref μ.length, D.ref (μ.length + 1), D.int 0]][j]? = some c → (μ ++ [Cell.lst (xs.map D.int), Cell.lst (ys.map D.int), Cell.lst [D.ref μ.length, D.ref (μ.length + 1), D.int 0]])[μ.length + j]? = some c := fun j c h => by
    rw [List.getElem?_append_right (by omega)]; simpa using h
  cases rv with
  | @ref _ a ha =>
    obtain ⟨hb, us, u1, u2⟩ := r'.cell _ a _ ha (g 2 _ rfl)
    obtain ⟨a0, a1, rfl, w0, w1⟩ := reps_ref u2
    obtain ⟨hb0, us0, v0, v1⟩ := r'.cell _ a0 _ w0 (g 0 _ rfl)
    obtain ⟨hb1, us1, v2, v3⟩ := r'.cell _ a1 _ w1 (g 1 _ rfl)
    have e0 := Reps.ints xs v1
    have e1 := Reps.ints ys v3
    subst e0; subst e1
    have lenL := sr.len
    have nin : ∀ (j : Nat) (z : Addr), μ.length ≤ j → n'.al[j]? = some z → z ∉ n.al := fun j z hj e hz => by
      obtain ⟨i', hi', ei⟩ := List.getElem_of_mem hz
      have e1 : n.al[i']? = some z := by rw [List.getElem?_eq_getElem hi', ei]
      have := nodup_get r'.nd (pre_get s'.pre e1) e
      omega
    have new : ∀ (j : Nat) (z : Addr), μ.length ≤ j → n'.al[j]? = some z → n.H z = none := fun j z hj e => by
      rcases s'.newa z (List.mem_of_getElem? e) with y | y
      · exact absurd y (nin j z hj e)
      · exact y
    have hna : a ∉ n.al := nin _ a (by omega) ha
    have gget : ∀ {i : Nat} {z : Addr}, (n.al ++ [a])[i]? = some z → (i < μ.length ∧ n.al[i]? = some z) ∨ (i = μ.length ∧ z = a) := fun {i z} h => by
      by_cases hi : i < n.al.length
      · rw [List.getElem?_append_left hi] at h; exact .inl ⟨by omega, h⟩
      · rw [List.getElem?_append_right (by omega)] at h
        have hz := (List.getElem?_eq_some_iff.mp h).1
        simp at hz
        have : i = n.al.length := by omega
        subst this
        simp at h
        exact .inr ⟨lenL, h.symm⟩
    refine hq ⟨n'.Hb, n'.H, n.al ++ [a], [a0, a1]⟩ _ (.ref μ.length) (μ ++ [.orc (1099511627776, true)]) ⟨s'.same, List.prefix_append _ _, s'.newb, fun b hb => ?_, fun b hb => ?_, fun b o e h0 h1 h2 => s'.keep b o e h0 h1 h2, s'.dom⟩ ?_ (.ref ?_) q
    · rcases List.mem_append.mp hb with z | z
      · exact .inl z
      · rw [List.mem_singleton.mp z]; exact .inr (new _ a (by omega) ha)
    · simp at hb
      rcases hb with rfl | rfl
      · exact .inr (new _ _ (Nat.le_refl _) w0)
      · exact .inr (new _ _ (by omega) w1)
    · refine ⟨r'.same, by simp [lenL], ?_, fun i z c h1 h2 => ?_, fun z hz => ?_, fun i j x y h1 h2 => ?_, fun b hb => ?_⟩
      · show (n.al ++ [a]).Nodup
        rw [List.nodup_append]
        exact ⟨sr.nd, by simp, fun b hb c hc z => by rw [List.mem_singleton.mp hc] at z; exact hna (z ▸ hb)⟩
      · rcases gget h1 with ⟨hi, h1⟩ | ⟨rfl, rfl⟩
        · have h2' : μ[i]? = some c := by rw [← h2, List.getElem?_append_left hi]
          have h2'' : (μ ++ [Cell.lst (xs.map D.int), Cell.lst (ys.map D.int), Cell.lst [D.ref μ.length, D.ref (μ.length + 1), D.int 0]])[i]? = some c := by rw [List.getElem?_append_left hi]; exact h2'
          have nc : ∀ k, c ≠ .orc k := fun k z => hno i k (z ▸ h2')
          exact ((sr.cell i z c h1 h2').back (ph := [a0, a1]) (r'.cell i z c (pre_get s'.pre h1) h2'') nc s'.pre).sub (n' := ⟨n'.Hb, n'.H, n.al ++ [a], [a0, a1]⟩) nc rfl (fun x => x) (Same.refl _) (List.prefix_append _ _)
        · rw [List.getElem?_append_right (Nat.le_refl _)] at h2
          simp at h2
          subst h2
          exact ⟨hb, a0, xs, _, 0, u1, v0, hx1, by decide, by show (0 : Int) + _ ≤ _; decide, .inl ⟨rfl, a1, ys, rfl, rfl, fun z => by subst z; have := nodup_get r'.nd w0 w1; omega, hx2, v2, hy1, hy2⟩⟩
      · rcases List.mem_append.mp hz with y | y
        · exact r'.alh z (s'.pre.subset y)
        · rw [List.mem_singleton.mp y]; exact r'.alh a (List.mem_of_getElem? ha)
      · have qq : ∀ (i : Nat) x, (μ ++ [Cell.orc (1099511627776, true)])[i]? = some (.orc x) → i = μ.length := fun i x e => by
          by_cases hi : i < μ.length
          · rw [List.getElem?_append_left hi] at e; exact absurd e (hno i x)
          · have := (List.getElem?_eq_some_iff.mp e).1
            simp at this; omega
        rw [qq i x h1, qq j y h2]
      · simp at hb
        have nz : ∀ z (j : Nat), n'.al[j]? = some z → μ.length ≤ j → j ≠ μ.length + 2 → z ∉ n.al ++ [a] := fun z j e hj hne hz => by
          rcases List.mem_append.mp hz with y | y
          · exact nin j z hj e y
          · rw [List.mem_singleton.mp y] at e
            exact hne (nodup_get r'.nd e ha)
        rcases hb with rfl | rfl
        · exact ⟨hb0, nz _ _ w0 (Nat.le_refl _) (by omega), by show n'.H _ ≠ none; rw [v0]; simp⟩
        · exact ⟨hb1, nz _ _ w1 (by omega) (by omega), by show n'.H _ ≠ none; rw [v2]; simp⟩
    · show (n.al ++ [a])[μ.length]? = _
      rw [← lenL]; simp
end DV
namespace DV
open PySem PySem.Spec PyProof.Rows L2
/-! ### texts -/
def asc (z : Str) : Prop := ∀ c ∈ z.cps.toList, c < 128
theorem cps_app (a b : Str) : (a ++ b).cps.toList = a.cps.toList ++ b.cps.toList := by
  show (a.cps ++ b.cps).toList = _
  rw [Array.toList_append]
theorem len_app (a b : Str) : (a ++ b).length = a.length + b.length := by
  show (a.cps ++ b.cps).size = _
  rw [Array.size_append]; rfl
theorem len_list (a : Str) : a.length = a.cps.toList.length := by rw [Array.length_toList]; rfl
theorem asc_app {a b : Str} (ha : asc a) (hb : asc b) : asc (a ++ b) := fun c h => by
  rw [cps_app] at h
  rcases List.mem_append.mp h with h | h
  · exact ha c h
  · exact hb c h
theorem asc_ok {z : Str} (h : asc z) : PyData.strOk z = true := by
  unfold PyData.strOk
  rw [Array.all_eq_true]
  intro i hi
  have := h z.cps[i] (by simp)
  simp only [decide_eq_true_eq]
  omega
theorem join0 : ∀ ts : List Str, (Str.join "" ts).cps.toList = (ts.map fun t => t.cps.toList).flatten
  | [] => rfl
  | [x] => by simp [Str.join]
  | x :: y :: r => by
    have ih := join0 (y :: r)
    show (x ++ ("" : Str) ++ Str.join "" (y :: r)).cps.toList = _
    rw [cps_app, cps_app, ih]
    have : (("" : Str)).cps.toList = [] := rfl
    rw [this]; simp
theorem len_join {ts : List Str} (h : ∀ t ∈ ts, t.length = 1) : (Txt.join "" ts).length = ts.length := by
  rw [TL.join_eq, len_list, join0]
  induction ts with
  | nil => rfl
  | cons t ts ih =>
    simp only [List.map_cons, List.flatten_cons, List.length_append, List.length_cons]
    rw [ih fun x hx => h x (by simp [hx])]
    have := h t (by simp)
    rw [len_list] at this
    omega
theorem sum_ones {ts : List Str} (h : ∀ t ∈ ts, t.length = 1) : (ts.map (·.length)).sum = ts.length := by
  induction ts with
  | nil => rfl
  | cons t ts ih => simp only [List.map_cons, List.sum_cons, List.length_cons]; rw [ih fun x hx => h x (by simp [hx]), h t (by simp)]; omega
/-! ### a comprehension that draws nothing -/
theorem comp_pure {src : Option (Nat × List D)} {g : D → Gam → Mu → (Gam → Prop) → Prop} {tt : DTT} {te : DTE} {Γ : Gam} {μ : Mu} {Q : List D → Mu → Prop} (p : D → Bool) (f : D → D) (hG : Gd src μ) : ∀ (ds acc : List D),
    (∀ d ∈ ds, ∀ (K1 : D → Mu → Prop) (K2 : Mu → Prop), cond (p d) (K1 (f d) μ) (K2 μ) → g d Γ μ fun Γ1 => tt Γ1 μ (fun b μ2 => cond b (te Γ1 μ2 K1 fun _ _ => False) (K2 μ2)) fun _ _ => False) → acc.length + ds.length ≤ sizeLine →
    Q (acc ++ (ds.filter p).map f) μ → dCompL src g tt te Γ ds acc μ Q
  | [], acc, _, _, q => ⟨hG, by simpa using q⟩
  | d :: ds, acc, hs, hl, q => by
    rw [List.length_cons] at hl
    refine ⟨hG, hs d (by simp) _ _ ?_⟩
    cases e : p d with
    | true =>
      refine ⟨by omega, comp_pure p f hG ds _ (fun x hx => hs x (by simp [hx])) (by simp; omega) ?_⟩
      simpa [List.filter_cons, e] using q
    | false => exact comp_pure p f hG ds _ (fun x hx => hs x (by simp [hx])) (by omega) (by simpa [List.filter_cons, e] using q)
theorem draw_go {μ : Mu} {l c : Nat} {m : Int} {Q : D → Mu → Prop} {E : Exn → Mu → Prop} (h : μ[l]? = some (.orc (c, true))) (hc : 0 < c) (hm : 0 < m) (hm2 : m.natAbs.log2 < 9000) (q : ∀ d, 0 ≤ d → d < m → Q (.int d) (μ.set l (.orc (c - 1, true)))) : S_draw [.ref l, .int m] μ Q E :=
  ⟨l, c - 1, m, rfl, by rw [h]; congr 3; omega, hm, hm2, q⟩
/-! ### the law's own helpers -/
end DV
namespace DV
open PySem PySem.Spec PyProof.Rows L2
/-! ### the end of a law -/
end DV
namespace DV
open PySem PySem.Spec PyProof.Rows L2
/-! ### helpers of the laws: texts -/
theorem asc_dec {z : Str} (h : z.cps.toList.all (fun c => decide (c < 128)) = true) : asc z := fun c hc => of_decide_eq_true (List.all_eq_true.mp h c hc)
end DV
namespace DV
open PySem PySem.Spec PyProof.Rows L2
/-! ### instances of own classes -/
def putD (f : Str) (v : D) : List (Str × D) → List (Str × D)
  | [] => [(f, v)]
  | (g, x) :: r => if g = f then (g, v) :: r else (g, x) :: putD f v r
section
variable {K : PySem.W.Frag} {Hb : Hp} {al : List Addr}
/-- fields alike -/
theorem flds_look : ∀ {fs : List (Str × D)} {us : List (Str × V)} {f : Str} {d : D}, fs.map (·.1) = us.map (·.1) → Reps K Hb al (us.map (·.2)) (fs.map (·.2)) → fs.lookup f = some d → ∃ v, us.lookup f = some v ∧ Rep K Hb al v d
  | [], _, _, _, _, _, h => by simp at h
  | (g, x) :: fs, [], _, _, e, _, _ => by simp at e
  | (g, x) :: fs, (g', u) :: us, f, d, e, r, h => by
    simp only [List.map_cons, List.cons.injEq] at e
    obtain ⟨rfl, e⟩ := e
    cases r with
    | cons r1 r2 =>
      rw [List.lookup_cons] at h ⊢
      split at h
      · cases h; exact ⟨u, rfl, r1⟩
      · exact flds_look e r2 h
theorem flds_put {f : Str} {v : V} {d : D} (rv : Rep K Hb al v d) : ∀ {fs : List (Str × D)} {us : List (Str × V)}, fs.map (·.1) = us.map (·.1) → Reps K Hb al (us.map (·.2)) (fs.map (·.2)) →
    (putD f d fs).map (·.1) = (putF f v us).map (·.1) ∧ Reps K Hb al ((putF f v us).map (·.2)) ((putD f d fs).map (·.2))
  | [], [], _, _ => ⟨rfl, .cons rv .nil⟩
  | [], _ :: _, e, _ => by simp at e
  | (g, x) :: fs, [], e, _ => by simp at e
  | (g, x) :: fs, (g', u) :: us, e, r => by
    simp only [List.map_cons, List.cons.injEq] at e
    obtain ⟨rfl, e⟩ := e
    cases r with
    | cons r1 r2 =>
      obtain ⟨i1, i2⟩ := flds_put rv e r2
      unfold putD putF
      by_cases q : g = f
      · rw [if_pos q, if_pos q]; exact ⟨by simp [e], .cons rv r2⟩
      · rw [if_neg q, if_neg q]; exact ⟨by simp only [List.map_cons]; rw [i1], .cons r1 i2⟩
end
def dFld (C : Addr) (f : Str) (fo : DTE) : DTE := fun Γ μ Q E => fo Γ μ (fun d μ1 => match lk μ1 d with
  | .ins C' fs => C' = C ∧ (match fs.lookup f with | some v => Q v μ1 | none => False)
  | _ => False) E
def dSetF (C : Addr) (f : Str) (fo fv : DTE) : DTS := fun D Γ μ => fv Γ μ (fun v μ1 => fo Γ μ1 (fun o μ2 => match o with
  | .ref l => (match μ2[l]? with
    | some (.ins C' fs) => C' = C ∧ fs.length < 1000 ∧ D.nx Γ (μ2.set l (.ins C (putD f v fs)))
    | _ => False)
  | _ => False) (fun x μ1 => D.ex x Γ μ1)) (fun x μ1 => D.ex x Γ μ1)
section
variable {X : Cx} {W : WX} {o e value : Expr} {es : List Expr} {f m x : Str} {p pos pos' apos : Pos} {fo fv fi : DTE} {fr : DTA} {C g pr : Addr} {k : Nat} {fd : FuncData} {ps : List Str} {S : DSp}
theorem de_fld (c : Cls X.K C) (n : NoAttr X.K C f) (he : DE X W e fo) (hb : attributeBase e f X.env (eval e X.env) = eval e X.env := by rfl) : DE X W (.Attribute e f pos) (dFld C f fo) := PE.imp (pe_fld he hb) fun σ H Q ⟨n, Γ, μ, Qd, Ed, hH, sr, gr, h, hq, hx⟩ => by
  subst hH
  refine lift_go sr gr h (fun n1 x dx μ1 s1 r1 p1 q1 => ?_) hx
  try dsimp only at q1
  split at q1
  · rename_i C' fs e
    obtain ⟨rfl, q1⟩ := q1
    obtain ⟨a, dx, us, rfl, h1, h2, h3⟩ := see_ins r1 p1 e
    split at q1
    · rename_i d e2
      obtain ⟨v, h4, h5⟩ := flds_look h2 h3 e2
      exact ⟨a, _, dx, us, v, rfl, h1, c, by assumption, h4, hq n1 v d μ1 s1 r1 h5 q1⟩
    · exact q1.elim
  · exact q1.elim
theorem ds_fld (c : Cls X.K C) (n : NoAttr X.K C f) (ho : DE X W o fo) (hv : DE X W value fv) (hs : swapsWith value (some (.Attribute o f pos')) pos.line X.env = pure false := by rfl) : DS X W (.Assign [.Attribute o f pos'] value pos) (dSetF C f fo fv) :=
  PS.imp (ps_fld ho hv hs) fun Dn σ H ⟨A, n, Γ, μ, Dd, hH, sa, sr, gr, h, l⟩ => by
  subst hH
  have hx := l.x sa gr
  refine lift_go sr gr h (fun n1 v dv μ1 s1 r1 p1 q1 => lift_go r1 (gr.step s1) q1 (fun n2 x dx μ2 s2 r2 p2 q2 => ?_) (hx.step s1)) hx
  cases p2 with
  | @ref i a hl =>
    dsimp only at q2
    split at q2
    · rename_i C' fs e
      obtain ⟨rfl, hlen, q2⟩ := q2
      obtain ⟨hb, dx, us, h1, h2, h3⟩ := r2.cell _ _ _ hl e
      have hl2 : fs.length = us.length := by simpa using congrArg List.length h2
      obtain ⟨z1, z2⟩ := flds_put (f := f) (s2.rep p1) h2 h3
      refine ⟨a, _, dx, us, rfl, h1, c, by assumption, by omega, ?_⟩
      exact l.nx (n2.more a (.ins _ dx (putF f v us))) Γ σ _ (((sa.trans s1).trans s2).trans (Step.write hl)) (r2.write hl hb (c := .ins _ (putD f dv fs)) ⟨hb, dx, _, upd_same, z1, z2⟩ (fun k z => by cases z)) (((gr.step s1).step s2).step (Step.write hl)) q2
    · exact q2.elim
  | _ => exact q2.elim
/-! ### C(..): a new object, fixed behind its __init__ -/
def dMake (C : Addr) (S : DSp) (fr : DTA) : DTE := fun Γ μ Q E => fr Γ μ (fun vs μ1 => S (.ref μ1.length :: vs) (μ1 ++ [.ins C []])
  (fun r μ2 => r = .non ∧ ∃ fs μ3, μ2 = μ3 ++ [.ins C fs] ∧ Upd μ1 μ3 ∧ D.puF fs = true ∧ Q (.ins C fs) μ3)
  (fun x μ2 => ∃ c μ3, μ2 = μ3 ++ [c] ∧ Upd μ1 μ3 ∧ D.puF x.fs = true ∧ E x μ3)) E
theorem ins_rep {K : PySem.W.Frag} {Hb : Hp} {al : List Addr} {a C dx : Addr} {us : List (Str × V)} {fs : List (Str × D)} (h : Hb a = some (.ins C dx us)) (h2 : fs.map (·.1) = us.map (·.1)) (h3 : Reps K Hb al (us.map (·.2)) (fs.map (·.2))) : Rep K Hb al (.ref a) (.ins C fs) := by
  have hz : fs = (us.map (·.1)).zip (fs.map (·.2)) := (zip_maps fs us h2).symm
  rw [hz]
  exact .ins h rfl h3
/-- what C(..) asks of __init__'s promise, at the layer's level -/
theorem make_go {K : PySem.W.Frag} {n1 : Now} {μ1 : Mu} {vs : List V} {ds : List D} {Qd : D → Mu → Prop} {Ed : Exn → Mu → Prop} {Q : VK} {E : XK} (r1 : SR0 K n1 μ1) (p1 : Reps K n1.Hb n1.al vs ds)
    (q1 : S (.ref μ1.length :: ds) (μ1 ++ [.ins C []]) (fun r μ2 => r = .non ∧ ∃ fs μ3, μ2 = μ3 ++ [.ins C fs] ∧ Upd μ1 μ3 ∧ D.puF fs = true ∧ Qd (.ins C fs) μ3) (fun x μ2 => ∃ c μ3, μ2 = μ3 ++ [c] ∧ Upd μ1 μ3 ∧ D.puF x.fs = true ∧ Ed x μ3))
    (hq : LV K n1 Qd Q) (hx : ∀ n' cls dd x μ', Step n1 n' → SR0 K n' μ' → ExR K n1 n' cls dd x → Ed x μ' → E cls dd n'.H) (x dx : Addr) (nx : n1.H x = none) (ndx : n1.H dx = none) (ne : dx ≠ x) :
    spOf K S (.ref x :: vs) (upd (upd n1.H dx (.own x)) x (.ins C dx [])) (fun v H2 => v = .non ∧ Q (.ref x) H2) E := by
  have rx : SR0 K (n1.more dx (.own x)) μ1 := r1.more ndx
  have nx' : (n1.more dx (.own x)).H x = none := by show upd n1.H dx _ x = none; rw [upd_ne (Ne.symm ne)]; exact nx
  have ra : SR0 K ((n1.more dx (.own x)).cell x (.ins C dx [])) (μ1 ++ [.ins C []]) := rx.cellN nx' (c := .ins C []) ⟨rx.hb nx', dx, [], upd_same, rfl, .nil⟩ (fun k z => by cases z)
  have st : Step n1 ((n1.more dx (.own x)).cell x (.ins C dx [])) := (Step.more ndx).trans (Step.cell nx')
  have hal : ((n1.more dx (.own x)).cell x (.ins C dx [])).al = n1.al ++ [x] := rfl
  refine ⟨(n1.more dx (.own x)).cell x (.ins C dx []), _, _, _, _, rfl, ra, .cons (.ref ?_) (st.reps p1), q1, ?_, ?_⟩
  · rw [hal, ← r1.len]; simp
  · rintro n2 v d μ2 s2 r2 rv ⟨rfl, fs, μ3, rfl, u, hp, q⟩
    cases rv
    refine ⟨rfl, ?_⟩
    have hx2 : n2.al[μ3.length]? = some x := pre_get s2.pre (by rw [hal, u.1, ← r1.len]; simp)
    obtain ⟨hb, dx2, us, h1, h2, h3⟩ := r2.cell μ3.length x (.ins C fs) hx2 (by simp)
    have fz := frozen (l := 0) (loc := [.ins C fs]) r1 (st.trans s2) r2 u (by simpa using hx2) h1 hb
    refine hq ⟨upd n2.Hb x (.ins C dx2 us), n2.H, n1.al, n2.ph⟩ _ (.ins C fs) μ3 fz.2 fz.1 ?_ q
    exact ins_rep upd_same h2 ((h3.any (by rw [← puF_eq]; exact hp)).mono (same_upd hb) (List.prefix_refl _))
  · rintro n2 cls dd y μ2 s2 r2 ex ⟨c, μ3, rfl, u, hp, q⟩
    obtain ⟨t1, t2⟩ := trunc r1 (st.trans s2) r2 u
    exact hx ⟨n2.Hb, n2.H, n1.al, n2.ph⟩ cls dd y μ3 t2 t1 (exr_trunc (ex.anchor st) hp fun a h => (st.trans s2).pre.subset h) q
theorem run_makeD {pins : List (Addr × Obj)} {σ : L2.St} {s : Shared} {n1 : Now} {μ1 : Mu} {ds : List D} {Qd : D → Mu → Prop} {Ed : Exn → Mu → Prop} {Q : VK} {us ws : List Value} {kw : List (Str × Value)} {vs : List V} {fI : Addr} (M : Mk X.K C fI) (F : FnOk X.prog X.w X.K X.mg X.base (L2.CX X.prog X.w) k fI fd ps (spOf X.K S)) (hr : Room (k + 1) X.A)
    (hb : ∀ (s' : Shared) (a : Addr), X.K.In s'.heap → BindsTo s' fd ⟨.ref a :: us, kw⟩ (ps.zip (.ref a :: ws))) (tk : Takes X W)
    (I : Inv X pins σ n1.H s) (r : Vals vs ws) (r1 : SR0 X.K n1 μ1) (p1 : Reps X.K n1.Hb n1.al vs ds)
    (q1 : S (.ref μ1.length :: ds) (μ1 ++ [.ins C []]) (fun r μ2 => r = .non ∧ ∃ fs μ3, μ2 = μ3 ++ [.ins C fs] ∧ Upd μ1 μ3 ∧ D.puF fs = true ∧ Qd (.ins C fs) μ3) (fun x μ2 => ∃ c μ3, μ2 = μ3 ++ [c] ∧ Upd μ1 μ3 ∧ D.puF x.fs = true ∧ Ed x μ3))
    (hq : LV X.K n1 Qd Q) (hx : ∀ n' cls dd x μ', Step n1 n' → SR0 X.K n' μ' → ExR X.K n1 n' cls dd x → Ed x μ' → W cls dd σ n'.H) : wpAny (model X.prog X.w) X.A (call (.ref C) us kw) (EP X pins σ Q) X.xe s := by
  have I2 := Inv.made (C := C) I
  have nx : n1.H (s.heap.objs.size + 1) = none := I.hok.fresh (Nat.le_succ _)
  have nd : n1.H s.heap.objs.size = none := I.hok.fresh (Nat.le_refl _)
  have sp := make_go (C := C) (S := S) (E := WE W σ) r1 p1 q1 hq hx _ _ nx nd (Nat.ne_of_lt (Nat.lt_succ_self _))
  have rr : Vals (V.ref (s.heap.objs.size + 1) :: vs) (Value.ref (s.heap.objs.size + 1) :: ws) := .cons rfl r
  have go := F.run (X.A.under (.builtin "type.__call__" ⟨.ref C :: us, kw⟩)) X.stack _ _ ⟨Value.ref (s.heap.objs.size + 1) :: us, kw⟩ _ _ _ _ (hr.make C us kw) (I2.env0.make C us kw) (hb _ _ I2.kIn) rr sp
  refine wpAny_call (make_map (f := fI) I.kIn M.makes M.init (beq_iff_eq.mp M.fn) (codeAny_mono go ?_))
  intro res s' hq'
  match res, hq' with
  | .error e, hq' => exact passAt tk σ pins _ _ e s' I2 hq'
  | .ok (.ret u), hq' =>
    obtain ⟨v, H', I3, rv, ev, q3⟩ := I2.after hq'
    subst ev
    exact ⟨rv, ⟨V.ref (s.heap.objs.size + 1), H', I3, rfl, q3⟩⟩
theorem de_make {fI : Addr} (M : Mk X.K C fI) (F : FnOk X.prog X.w X.K X.mg X.base (L2.CX X.prog X.w) k fI fd ps (spOf X.K S)) (hr : Room (k + 1) X.A) (hg : Gl X x) (hm : X.mg x = some (.ref C)) (hb : Binds X.K fd ps []) (tk : Takes X W) (ha : DA X W (e :: es) fr) (hdb : (x == ("__debug__" : Str)) = false := by decide)
    (he : starEach (e :: es) X.env = (false, eval e X.env) :: starEach es X.env := by rfl) (hpl : (backTo pos (starEach es X.env)).any (·.1) = false := by rfl) : DE X W (.Call (.Name x p) (e :: es) [] pos) (dMake C S fr) := by
  refine ⟨fun pins s σ H Q I ⟨n, Γ, μ, Qd, Ed, hH, sr, gr, h, hq, hx⟩ => ?_⟩
  subst hH
  refine wpAny_Call_Name_kw (ld_glob I hg hm ?_ hdb)
  let R : List V → Hp → Prop := fun vs H1 => ∃ n1 ds μ1, n1.H = H1 ∧ SR0 X.K n1 μ1 ∧ Reps X.K n1.Hb n1.al vs ds ∧ LV X.K n1 Qd Q ∧ (∀ n' cls dd x μ', Step n1 n' → SR0 X.K n' μ' → ExR X.K n1 n' cls dd x → Ed x μ' → W cls dd σ n'.H) ∧
    S (.ref μ1.length :: ds) (μ1 ++ [.ins C []]) (fun r μ2 => r = .non ∧ ∃ fs μ3, μ2 = μ3 ++ [.ins C fs] ∧ Upd μ1 μ3 ∧ D.puF fs = true ∧ Qd (.ins C fs) μ3) (fun x μ2 => ∃ c μ3, μ2 = μ3 ++ [c] ∧ Upd μ1 μ3 ∧ D.puF x.fs = true ∧ Ed x μ3)
  refine PySem.W.callWith_K (h₀ := X.base) I.ok.mod.kin M.kp (thn (ha.run pos pins s σ n.H R I (liftA_go sr gr h (fun n1 vs ds μ1 s1 r1 p1 q1 => ⟨n1, ds, μ1, rfl, r1, p1, LV.step hq s1, hx.step s1, q1⟩) hx)) ?_) he hpl
  rintro us s1 ⟨vs, H1, I1, r, n1, ds, μ1, rfl, r1, p1, hq1, hx1, q1⟩
  refine ⟨I1.kIn, ?_⟩
  have hl : us.length + 1 = ps.length := by
    have nx : n1.H (s1.heap.objs.size + 1) = none := I1.hok.fresh (Nat.le_succ _)
    have nd : n1.H s1.heap.objs.size = none := I1.hok.fresh (Nat.le_refl _)
    have := F.len _ _ _ _ (make_go (C := C) (S := S) (E := WE W σ) r1 p1 q1 hq1 hx1 _ _ nx nd (Nat.ne_of_lt (Nat.lt_succ_self _)))
    rw [← this, List.length_cons, r.length]
  refine run_makeD (ws := us) M F hr (fun s' a hk => ?_) tk I1 r r1 p1 q1 hq1 hx1
  have := hb s' (.ref a :: us) hk (by simpa using hl)
  rwa [List.append_nil] at this
/-- C(..) whose __init__ leaves further cells behind: all become data -/
def dMakeM (C : Addr) (S : DSp) (fr : DTA) : DTE := fun Γ μ Q E => fr Γ μ (fun vs μ1 => S (.ref μ1.length :: vs) (μ1 ++ [.ins C []])
  (fun r μ2 => r = .non ∧ ∃ e loc μ3, μ2 = μ3 ++ loc ∧ Upd μ1 μ3 ∧ Fz μ3.length (μ3 ++ loc) (.ref μ1.length) e ∧ Q e μ3)
  (fun x μ2 => ∃ loc μ3, μ2 = μ3 ++ loc ∧ Upd μ1 μ3 ∧ D.puF x.fs = true ∧ E x μ3)) E
theorem make_goM {K : PySem.W.Frag} {n1 : Now} {μ1 : Mu} {vs : List V} {ds : List D} {Qd : D → Mu → Prop} {Ed : Exn → Mu → Prop} {Q : VK} {E : XK} (r1 : SR0 K n1 μ1) (p1 : Reps K n1.Hb n1.al vs ds)
    (q1 : S (.ref μ1.length :: ds) (μ1 ++ [.ins C []]) (fun r μ2 => r = .non ∧ ∃ e loc μ3, μ2 = μ3 ++ loc ∧ Upd μ1 μ3 ∧ Fz μ3.length (μ3 ++ loc) (.ref μ1.length) e ∧ Qd e μ3) (fun x μ2 => ∃ loc μ3, μ2 = μ3 ++ loc ∧ Upd μ1 μ3 ∧ D.puF x.fs = true ∧ Ed x μ3))
    (hq : LV K n1 Qd Q) (hx : ∀ n' cls dd x μ', Step n1 n' → SR0 K n' μ' → ExR K n1 n' cls dd x → Ed x μ' → E cls dd n'.H) (x dx : Addr) (nx : n1.H x = none) (ndx : n1.H dx = none) (ne : dx ≠ x) :
    spOf K S (.ref x :: vs) (upd (upd n1.H dx (.own x)) x (.ins C dx [])) (fun v H2 => v = .non ∧ Q (.ref x) H2) E := by
  have rx : SR0 K (n1.more dx (.own x)) μ1 := r1.more ndx
  have nx' : (n1.more dx (.own x)).H x = none := by show upd n1.H dx _ x = none; rw [upd_ne (Ne.symm ne)]; exact nx
  have ra : SR0 K ((n1.more dx (.own x)).cell x (.ins C dx [])) (μ1 ++ [.ins C []]) := rx.cellN nx' (c := .ins C []) ⟨rx.hb nx', dx, [], upd_same, rfl, .nil⟩ (fun k z => by cases z)
  have st : Step n1 ((n1.more dx (.own x)).cell x (.ins C dx [])) := (Step.more ndx).trans (Step.cell nx')
  have hal : ((n1.more dx (.own x)).cell x (.ins C dx [])).al = n1.al ++ [x] := rfl
  refine ⟨(n1.more dx (.own x)).cell x (.ins C dx []), _, _, _, _, rfl, ra, .cons (.ref ?_) (st.reps p1), q1, ?_, ?_⟩
  · rw [hal, ← r1.len]; simp
  · rintro n2 v d μ2 s2 r2 rv ⟨rfl, e, loc, μ3, rfl, u, hf, q⟩
    cases rv
    refine ⟨rfl, ?_⟩
    have hx2 : n2.al[μ1.length]? = some x := pre_get s2.pre (by rw [hal, ← r1.len]; simp)
    obtain ⟨z1, z2, z3⟩ := melted r1 (st.trans s2) r2 u
    exact hq ⟨meltH n2 μ3.length, n2.H, n1.al, n2.ph⟩ _ e μ3 z2 z1 (melt_rep r2 z3 hf (.ref hx2)) q
  · rintro n2 cls dd y μ2 s2 r2 ex ⟨loc, μ3, rfl, u, hp, q⟩
    obtain ⟨t1, t2⟩ := trunc r1 (st.trans s2) r2 u
    exact hx ⟨n2.Hb, n2.H, n1.al, n2.ph⟩ cls dd y μ3 t2 t1 (exr_trunc (ex.anchor st) hp fun a h => (st.trans s2).pre.subset h) q
theorem run_makeM {pins : List (Addr × Obj)} {σ : L2.St} {s : Shared} {n1 : Now} {μ1 : Mu} {ds : List D} {Qd : D → Mu → Prop} {Ed : Exn → Mu → Prop} {Q : VK} {us ws : List Value} {kw : List (Str × Value)} {vs : List V} {fI : Addr} (M : Mk X.K C fI) (F : FnOk X.prog X.w X.K X.mg X.base (L2.CX X.prog X.w) k fI fd ps (spOf X.K S)) (hr : Room (k + 1) X.A)
    (hb : ∀ (s' : Shared) (a : Addr), X.K.In s'.heap → BindsTo s' fd ⟨.ref a :: us, kw⟩ (ps.zip (.ref a :: ws))) (tk : Takes X W)
    (I : Inv X pins σ n1.H s) (r : Vals vs ws) (r1 : SR0 X.K n1 μ1) (p1 : Reps X.K n1.Hb n1.al vs ds)
    (q1 : S (.ref μ1.length :: ds) (μ1 ++ [.ins C []]) (fun r μ2 => r = .non ∧ ∃ e loc μ3, μ2 = μ3 ++ loc ∧ Upd μ1 μ3 ∧ Fz μ3.length (μ3 ++ loc) (.ref μ1.length) e ∧ Qd e μ3) (fun x μ2 => ∃ loc μ3, μ2 = μ3 ++ loc ∧ Upd μ1 μ3 ∧ D.puF x.fs = true ∧ Ed x μ3))
    (hq : LV X.K n1 Qd Q) (hx : ∀ n' cls dd x μ', Step n1 n' → SR0 X.K n' μ' → ExR X.K n1 n' cls dd x → Ed x μ' → W cls dd σ n'.H) : wpAny (model X.prog X.w) X.A (call (.ref C) us kw) (EP X pins σ Q) X.xe s := by
  have I2 := Inv.made (C := C) I
  have nx : n1.H (s.heap.objs.size + 1) = none := I.hok.fresh (Nat.le_succ _)
  have nd : n1.H s.heap.objs.size = none := I.hok.fresh (Nat.le_refl _)
  have sp := make_goM (C := C) (S := S) (E := WE W σ) r1 p1 q1 hq hx _ _ nx nd (Nat.ne_of_lt (Nat.lt_succ_self _))
  have rr : Vals (V.ref (s.heap.objs.size + 1) :: vs) (Value.ref (s.heap.objs.size + 1) :: ws) := .cons rfl r
  have go := F.run (X.A.under (.builtin "type.__call__" ⟨.ref C :: us, kw⟩)) X.stack _ _ ⟨Value.ref (s.heap.objs.size + 1) :: us, kw⟩ _ _ _ _ (hr.make C us kw) (I2.env0.make C us kw) (hb _ _ I2.kIn) rr sp
  refine wpAny_call (make_map (f := fI) I.kIn M.makes M.init (beq_iff_eq.mp M.fn) (codeAny_mono go ?_))
  intro res s' hq'
  match res, hq' with
  | .error e, hq' => exact passAt tk σ pins _ _ e s' I2 hq'
  | .ok (.ret u), hq' =>
    obtain ⟨v, H', I3, rv, ev, q3⟩ := I2.after hq'
    subst ev
    exact ⟨rv, ⟨V.ref (s.heap.objs.size + 1), H', I3, rfl, q3⟩⟩
/-! ### methods, properties, o[i] -/
def isIns (μ : Mu) (C : Addr) (m : Str) (d : D) : Prop := match lk μ d with
  | .ins C' fs => C' = C ∧ fs.lookup m = none
  | _ => False
def dMethod (C : Addr) (m : Str) (S : DSp) (fo : DTE) (fr : DTA) : DTE := fun Γ μ Q E => fo Γ μ (fun d μ1 => isIns μ1 C m d ∧ fr Γ μ1 (fun vs μ2 => S (d :: vs) μ2 Q E) E) E
def insOf (μ : Mu) (C : Addr) (d : D) : Prop := match lk μ d with
  | .ins C' _ => C' = C
  | _ => False
theorem insOf_at {K : PySem.W.Frag} {n : Now} {μ : Mu} {v : V} {d : D} (s : SR0 K n μ) (r : Rep K n.Hb n.al v d) (h : insOf μ C d) : ∃ a dx us, v = .ref a ∧ n.H a = some (.ins C dx us) := by
  unfold insOf at h
  split at h
  · rename_i C' fs e
    subst h
    obtain ⟨a, dx, us, rfl, h1, _⟩ := see_ins s r e
    exact ⟨a, dx, us, rfl, h1⟩
  · exact h.elim
/-- a property that lets nothing out -/
def dProp (C : Addr) (S : DSp) (fo : DTE) : DTE := fun Γ μ Q E => fo Γ μ (fun d μ1 => insOf μ1 C d ∧ S [d] μ1 Q fun _ _ => False) E
theorem de_prop (c : Cls X.K C) (hp : PropOf X.K C f pr g) (F : FnOk X.prog X.w X.K X.mg X.base (L2.CX X.prog X.w) k g fd ps (spOf X.K S)) (hr : Room (k + 1) X.A) (hb : Binds X.K fd ps []) (he : DE X W e fo) (hab : attributeBase e f X.env (eval e X.env) = eval e X.env := by rfl) :
    DE X W (.Attribute e f pos) (dProp C S fo) := PE.imp (pe_prop (dvs := []) (E := fun _ _ _ => False) he c hp F hr hb .nil (fun _ _ _ _ _ _ _ z => by obtain ⟨_, _, _, _, _, _, _, _, _, _, _, _, q⟩ := z; exact q) hab) fun σ H Q ⟨n, Γ, μ, Qd, Ed, hH, sr, gr, h, hq, hx⟩ => by
  subst hH
  refine lift_go sr gr h (fun n1 x dx μ1 s1 r1 p1 q1 => ?_) hx
  obtain ⟨a, dy, us, rfl, h1⟩ := insOf_at r1 p1 q1.1
  exact ⟨a, dy, us, rfl, h1, n1, [_], μ1, Qd, fun _ _ => False, rfl, r1, .cons p1 .nil, q1.2, LV.step hq s1, fun _ _ _ _ _ _ _ _ z => z.elim⟩
/-- o[i] by an own __getitem__ -/
def dOwnIx (C : Addr) (S : DSp) (fo fi : DTE) : DTE := fun Γ μ Q E => fo Γ μ (fun d μ1 => fi Γ μ1 (fun i μ2 => insOf μ2 C d ∧ S [d, i] μ2 Q E) E) E
/-- a way that is never taken -/
def dNever : DTS := fun _ _ _ => False
end
end DV
namespace DV
open PySem PySem.Spec PyProof.Rows L2
/-! ### sorted: data by their own order, or by a key -/
def pyd (d : D) : PyData := D.py 12 d
def srtOk (ks : List D) : Prop := (∀ d ∈ ks, D.okn 12 d = true) ∧ PySem.W.AllAlike (ks.map pyd) ∧ PySem.W.Sortable (ks.map pyd)
def leBy (key : D → D) : D → D → Bool := PySem.W.dataLe false fun d => pyd (key d)
def sortBy (key : D → D) (ds : List D) : List D := ds.mergeSort (leBy key)
theorem vals_each {α : Type} {f : α → V} : ∀ {zs : List α} {us : List Value}, PySem.W.EachIs (fun u z => RelV (f z) u) us zs → Vals (zs.map f) us
  | _, _, .nil => .nil
  | _, _, .cons h t => .cons h (vals_each t)
/-- sorted(x) -/
def gSorted (fz : Bool) : GN := fun ds μ Q => match ds with
  | [d] => (match lk μ d with
    | .lst xs => srtOk xs ∧ dFin fz (sortBy id xs) μ Q
    | _ => False)
  | _ => False
end DV
namespace DV
open PySem PySem.Spec PyProof.Rows L2
def dSortK (fz : Bool) (S : DSp) (key : D → D) (fe : DTE) : DTE := fun Γ μ Q E => fe Γ μ (fun d μ1 => match lk μ1 d with
  | .lst xs => (∀ d ∈ xs, S [d] μ1 (fun x μ' => x = key d ∧ μ' = μ1) (fun _ _ => False)) ∧ srtOk (xs.map key) ∧ dFin fz (sortBy key xs) μ1 Q
  | _ => False) E
end DV
namespace DV
open PySem PySem.Spec PyProof.Rows L2
/-! ### t[::-1] of a tuple -/
def dRevT (f : DTE) : DTE := fun Γ μ Q E => f Γ μ (fun d μ1 => match lk μ1 d with
  | .tup xs => Q (.tup xs.reverse) μ1
  | _ => False) E
section
variable {X : Cx} {W : WX} {a b e o : Expr} {k : Nat} {q1 q2 q3 pos p apos : Pos} {fa fb : DTE}
/-! ### in, deep -/
def inD (x : D) (ys : List D) : Bool := ys.any fun y => PyData.eqv (D.py 11 y) (D.py 12 x)
def gInD (neg : Bool) : G2 := fun x y μ Q => match lk μ y with
  | .lst ys => (D.okn 12 (lk μ x) = true ∧ ys.all (D.okn 11) = true) ∧ Q (.bl (if neg then !inD (lk μ x) ys else inD (lk μ x) ys)) μ
  | .tup ys => (D.okn 12 (lk μ x) = true ∧ ys.all (D.okn 11) = true) ∧ Q (.bl (if neg then !inD (lk μ x) ys else inD (lk μ x) ys)) μ
  | _ => False
/-! ### is True -/
def gIsB (neg : Bool) : G2 := fun x y μ Q => match x, y with
  | .bl a, .bl b => Q (.bl (if neg then !decide (a = b) else decide (a = b))) μ
  | _, _ => False
/-! ### str(i) -/
def gStr : GN := fun ds μ Q => match ds with
  | [.int i] => i.natAbs.log2 < 1920 ∧ Q (.str (toString i)) μ
  | _ => False
theorem de_strC (hg : Gl X "str") (hm : X.mg "str" = none) (ha : DE X W a fa) (hs : starEach [a] X.env = (false, eval a X.env) :: starEach [] X.env := by rfl) : DE X W (.Call (.Name "str" p) [a] [] pos) (dCall gStr (dCons fa dNil)) :=
  de_callTy call_str_int (fun n μ xs ds Qd Q s r q l => by
    unfold gStr at q
    split at q
    · cases r with
      | cons r1 r2 => cases r2; cases r1; exact ⟨_, rfl, q.1, l.now s (.str _) q.2⟩
    · exact q.elim) hg hm (by decide +kernel) (da_cons ha da_nil hs) (he := hs)
/-! ### l.pop() -/
def dPop0 (fo : DTE) : DTE := fun Γ μ Q E => fo Γ μ (fun x μ1 => match x with
  | .ref l => (match μ1[l]? with
    | some (.lst xs) => (match xs[xs.length - 1]? with | some y => Q y (μ1.set l (.lst xs.dropLast)) | none => False)
    | _ => False)
  | _ => False) E
end
/-! ### dict displays -/
def keyOfD : D → Option Key
  | .int i => some (.inl i)
  | .str x => some (.inr x)
  | _ => none
def keysD : List (D × D) → Option (List (Key × D))
  | [] => some []
  | (k, v) :: r => match keyOfD k, keysD r with
    | some k, some r => some ((k, v) :: r)
    | _, _ => none
def putKD (kvs : List (Key × D)) (k : Key) (v : D) : List (Key × D) :=
  if (kvs.any fun kv => decide (kv.1 = k)) = true then kvs.map (fun kv => if kv.1 = k then (kv.1, v) else kv) else kvs ++ [(k, v)]
def mergeKD (kvs more : List (Key × D)) : List (Key × D) := more.foldl (fun acc kv => putKD acc kv.1 kv.2) kvs
def dFinD (fz : Bool) (acc : List (Key × D)) (μ : Mu) (Q : D → Mu → Prop) : Prop := match fz with
  | true => Q (.dct acc) μ
  | false => Q (.ref μ.length) (μ ++ [.dct acc])
def dPairs : List (DTE × DTE) → Gam → Mu → (List (D × D) → Mu → Prop) → (Exn → Mu → Prop) → Prop
  | [], _, μ, Q, _ => Q [] μ
  | (fk, fv) :: r, Γ, μ, Q, E => fk Γ μ (fun x μ1 => fv Γ μ1 (fun y μ2 => dPairs r Γ μ2 (fun ps μ3 => Q ((x, y) :: ps) μ3) E) E) E
def dDict (fz : Bool) (trs : List (DTE × DTE)) : DTE := fun Γ μ Q E => dPairs trs Γ μ (fun ps μ1 => match keysD ps with
  | some kvs => kvs.length ≤ 15 ∧ dFinD fz (mergeKD [] kvs) μ1 Q
  | none => False) E
/-- a dict of the layer and one of the deep layer -/
def RepK (K : PySem.W.Frag) (Hb : Hp) (al : List Addr) (us : List (Key × V)) (kvs : List (Key × D)) : Prop := kvs.map (·.1) = us.map (·.1) ∧ Reps K Hb al (us.map (·.2)) (kvs.map (·.2))
section
variable {K : PySem.W.Frag} {Hb : Hp} {al : List Addr}
theorem RepK.nil : RepK K Hb al [] [] := ⟨rfl, .nil⟩
theorem RepK.snoc {us : List (Key × V)} {kvs : List (Key × D)} {k : Key} {v : V} {d : D} (h : RepK K Hb al us kvs) (r : Rep K Hb al v d) : RepK K Hb al (us ++ [(k, v)]) (kvs ++ [(k, d)]) :=
  ⟨by simp [h.1], by simpa using h.2.append (.cons r .nil)⟩
theorem RepK.put : ∀ {us : List (Key × V)} {kvs : List (Key × D)} {k : Key} {v : V} {d : D}, RepK K Hb al us kvs → Rep K Hb al v d → RepK K Hb al (putK us k v) (putKD kvs k d) := fun {us kvs k v d} h r => by
  have e : (us.any fun kv => decide (kv.1 = k)) = (kvs.any fun kv => decide (kv.1 = k)) := by
    have e1 : (us.any fun kv => decide (kv.1 = k)) = ((us.map (·.1)).any fun q => decide (q = k)) := by rw [List.any_map]; rfl
    have e2 : (kvs.any fun kv => decide (kv.1 = k)) = ((kvs.map (·.1)).any fun q => decide (q = k)) := by rw [List.any_map]; rfl
    rw [e1, e2, h.1]
  unfold putK putKD
  rw [e]
  split
  · have aux : ∀ {us : List (Key × V)} {kvs : List (Key × D)}, kvs.map (·.1) = us.map (·.1) → Reps K Hb al (us.map (·.2)) (kvs.map (·.2)) → RepK K Hb al (us.map (fun kv => if kv.1 = k then (kv.1, v) else kv)) (kvs.map (fun kv => if kv.1 = k then (kv.1, d) else kv)) := fun {us} => by
      induction us with
      | nil => intro kvs e1 e2; cases kvs with
        | nil => exact RepK.nil
        | cons _ _ => simp at e1
      | cons a us ih =>
        intro kvs e1 e2
        cases kvs with
        | nil => simp at e1
        | cons b kvs =>
          simp only [List.map_cons, List.cons.injEq] at e1
          simp only [List.map_cons] at e2
          cases e2 with
          | cons x1 x2 =>
            obtain ⟨y1, y2⟩ := ih e1.2 x2
            refine ⟨?_, ?_⟩
            · simp only [List.map_cons]
              rw [y1]
              congr 1
              rw [← e1.1]
              split <;> simp [e1.1]
            · simp only [List.map_cons]
              refine .cons ?_ y2
              rw [← e1.1]
              split
              · exact r
              · exact x1
    exact aux h.1 h.2
  · exact h.snoc r
theorem RepK.merge : ∀ {ms : List (Key × V)} {mds : List (Key × D)} {us : List (Key × V)} {kvs : List (Key × D)}, RepK K Hb al ms mds → RepK K Hb al us kvs → RepK K Hb al (mergeK us ms) (mergeKD kvs mds) := fun {ms} => by
  induction ms with
  | nil =>
    intro mds us kvs h1 h2
    cases mds with
    | nil => exact h2
    | cons _ _ => simp [RepK] at h1
  | cons a ms ih =>
    intro mds us kvs h1 h2
    cases mds with
    | nil => simp [RepK] at h1
    | cons b mds =>
      obtain ⟨e1, e2⟩ := h1
      simp only [List.map_cons, List.cons.injEq] at e1
      simp only [List.map_cons] at e2
      cases e2 with
      | cons x1 x2 =>
        have := ih (us := putK us a.1 a.2) (kvs := putKD kvs b.1 b.2) ⟨e1.2, x2⟩ (by rw [e1.1]; exact h2.put x1)
        exact this
theorem keysD_of : ∀ {ps : List (D × D)} {kvs : List (Key × D)} {qs : List (V × V)}, keysD ps = some kvs → Reps K Hb al (qs.map (·.1)) (ps.map (·.1)) → Reps K Hb al (qs.map (·.2)) (ps.map (·.2)) → ∃ us : List (Key × V), qs = us.map (fun kv => (kV kv.1, kv.2)) ∧ RepK K Hb al us kvs
  | [], kvs, qs, h, r1, r2 => by
    cases qs with
    | nil => cases h; exact ⟨[], rfl, RepK.nil⟩
    | cons _ _ => cases r1
  | (k, v) :: ps, kvs, qs, h, r1, r2 => by
    cases qs with
    | nil => cases r1
    | cons q qs =>
      simp only [List.map_cons] at r1 r2
      cases r1 with
      | cons a1 a2 =>
        cases r2 with
        | cons b1 b2 =>
          simp only [keysD] at h
          split at h
          · rename_i k' r' ek er
            cases h
            obtain ⟨us, e, hr⟩ := keysD_of er a2 b2
            obtain ⟨q1, q2⟩ := q
            have hk : q1 = kV k' := by
              cases k <;> simp [keyOfD] at ek
              · subst ek
                have a1' : Rep K Hb al q1 (.int _) := a1
                cases a1'; rfl
              · subst ek
                have a1' : Rep K Hb al q1 (.str _) := a1
                cases a1'; rfl
            refine ⟨(k', q2) :: us, ?_, ?_, ?_⟩
            · simp only [List.map_cons, ← e, hk]
            · simp only [List.map_cons, hr.1]
            · simp only [List.map_cons]
              exact .cons b1 hr.2
          · cases h
end
inductive DPs (X : Cx) (W : WX) : List (Option Expr) → List Expr → List (DTE × DTE) → Prop
  | nil : DPs X W [] [] []
  | cons {k v : Expr} {ks : List (Option Expr)} {vs : List Expr} {fk fv : DTE} {trs : List (DTE × DTE)} : DE X W k fk → DE X W v fv → DPs X W ks vs trs → DPs X W (some k :: ks) (v :: vs) ((fk, fv) :: trs)
section
variable {X : Cx} {W : WX} {pos : Pos}
theorem DPs.pps {ks : List (Option Expr)} {vs : List Expr} {trs : List (DTE × DTE)} (h : DPs X W ks vs trs) : PPs X pos ks vs (trs.map fun z => (lift X.K W z.1, lift X.K W z.2)) := by
  induction h with
  | nil => exact pps_nil
  | cons h1 h2 _ ih => exact pps_cons h1 h2 ih
theorem pairs_go {K : PySem.W.Frag} {Γ : Gam} {σ : L2.St} {Ed : Exn → Mu → Prop} : ∀ (trs : List (DTE × DTE)) {n : Now} {μ : Mu} {Qd : List (D × D) → Mu → Prop} {Q : List (V × V) → Hp → Prop}, SR0 K n μ → GR K n Γ σ → dPairs trs Γ μ Qd Ed →
    (∀ n' qs ps μ', Step n n' → SR0 K n' μ' → Reps K n'.Hb n'.al (qs.map (·.1)) (ps.map (·.1)) → Reps K n'.Hb n'.al (qs.map (·.2)) (ps.map (·.2)) → Qd ps μ' → Q qs n'.H) → XLink K W n Γ σ Ed → tPairs (trs.map fun z => (lift K W z.1, lift K W z.2)) σ n.H Q
  | [], n, μ, Qd, Q, sr, gr, h, hq, hx => hq n [] [] μ (Step.refl n) sr .nil .nil h
  | (fk, fv) :: trs, n, μ, Qd, Q, sr, gr, h, hq, hx => by
    refine lift_go sr gr h (fun n1 x dx μ1 s1 r1 p1 q1 => lift_go r1 (gr.step s1) q1 (fun n2 y dy μ2 s2 r2 p2 q2 => ?_) (hx.step s1)) hx
    refine pairs_go trs r2 ((gr.step s1).step s2) q2 (fun n3 qs ps μ3 s3 r3 a b q3 => ?_) ((hx.step s1).step s2)
    exact hq n3 ((x, y) :: qs) ((dx, dy) :: ps) μ3 ((s1.trans s2).trans s3) r3 (.cons ((s2.trans s3).rep p1) a) (.cons (s3.rep p2) b) q3
theorem de_dict (fz : Bool) {ks : List (Option Expr)} {vs : List Expr} {trs : List (DTE × DTE)} (h : DPs X W ks vs trs) (hall : ks.all (·.isSome) = true := by rfl) (hl : ks.length = vs.length := by rfl) (h0 : ks ≠ [] := by simp) (h15 : ks.length ≤ 15 := by decide) :
    DE X W (.Dict ks vs pos) (dDict fz trs) := PE.imp (pe_disp h.pps hall hl h0 h15) fun σ H Q ⟨n, Γ, μ, Qd, Ed, hH, sr, gr, h, hq, hx⟩ => by
  subst hH
  intro p hp
  have hid : Hid (n.more p (.dK [])) p := ⟨sr.hb hp, sr.nal hp, sr.nph hp⟩
  have s0 : Step n (n.more p (.dK [])) := Step.other (Step.refl n) hp
  refine pairs_go (n := n.more p (.dK [])) trs (sr.other ⟨hid.b, hid.a, hid.ph⟩) (gr.step s0) h (fun n1 qs ps μ1 s1 r1 a b q1 => ?_) (hx.step s0)
  obtain ⟨hid1, hp1⟩ := hid.step upd_same s1
  refine ⟨hp1, ?_⟩
  try dsimp only at q1
  split at q1
  · rename_i kvs e
    obtain ⟨us, eq, hr⟩ := keysD_of e a b
    have hlk : us.length = kvs.length := by have := congrArg List.length hr.1; simpa using this.symm
    have hm := RepK.merge hr (RepK.nil (K := X.K) (Hb := n1.Hb) (al := n1.al))
    refine ⟨us, eq, by rw [hlk]; exact q1.1, ?_⟩
    have s2 : Step n (n1.more p (.dK (mergeK [] us))) := Step.other (s0.trans s1) hp
    have r2 : SR0 X.K (n1.more p (.dK (mergeK [] us))) μ1 := r1.other hid1
    have hid2 : Hid (n1.more p (.dK (mergeK [] us))) p := ⟨hid1.b, hid1.a, hid1.ph⟩
    have q2 := q1.2
    unfold dFinD at q2
    cases fz with
    | true =>
      refine hq ⟨upd n1.Hb p (.dK (mergeK [] us)), upd n1.H p (.dK (mergeK [] us)), n1.al, n1.ph⟩ _ (.dct (mergeKD [] kvs)) μ1 (Step.adopt s2 hp hid2) (r2.adopt hid2 upd_same) ?_ q2
      have z : Rep X.K (upd n1.Hb p (.dK (mergeK [] us))) n1.al (.ref p) (.dct (((mergeK [] us).map (·.1)).zip ((mergeKD [] kvs).map (·.2)))) := .dct (.inl upd_same) rfl (hm.2.mono (same_upd hid1.b) (List.prefix_refl _))
      rw [zip_maps _ _ hm.1] at z
      exact z
    | false =>
      refine hq ⟨n1.Hb, upd n1.H p (.dK (mergeK [] us)), n1.al ++ [p], n1.ph⟩ _ (.ref μ1.length) (μ1 ++ [Cell.dct (mergeKD [] kvs)]) (Step.adoptC s2 hp) (r2.adoptC hid2 upd_same (c := .dct (mergeKD [] kvs)) ⟨hid1.b, _, upd_same, hm.1, hm.2.mono (Same.refl _) (List.prefix_append _ _)⟩ (fun k z => by cases z)) (.ref ?_) q2
      show (n1.al ++ [p])[μ1.length]? = _
      rw [← r1.len]; simp
  · exact q1.elim
end
end DV
/-! Readings: comprehensions and loops by an invariant; the oracle's place in the cells. -/
namespace DV
open PySem PySem.Spec PyProof.Rows L2
theorem comp_invA {src : Option (Nat × List D)} {g : D → Gam → Mu → (Gam → Prop) → Prop} {tt : DTT} {te : DTE} {Γ : Gam} {Q : List D → Mu → Prop} (I : Nat → List D → Mu → Prop) : ∀ (ds acc : List D) (μ : Mu) (k : Nat),
    (∀ i d acc μ, ds[i]? = some d → I (k + i) acc μ → Gd src μ ∧ ∀ (K1 : D → Mu → Prop) (K2 : Mu → Prop), (∀ y μ3, I (k + i + 1) (acc ++ [y]) μ3 → K1 y μ3) → (∀ μ2, I (k + i + 1) acc μ2 → K2 μ2) → g d Γ μ fun Γ1 => tt Γ1 μ (fun b μ2 => cond b (te Γ1 μ2 K1 fun _ _ => False) (K2 μ2)) fun _ _ => False) →
    acc.length + ds.length ≤ sizeLine → I k acc μ → (∀ acc μ, I (k + ds.length) acc μ → Gd src μ ∧ Q acc μ) → dCompL src g tt te Γ ds acc μ Q
  | [], acc, μ, k, _, _, h0, he => he acc μ h0
  | d :: ds, acc, μ, k, hs, hl, h0, he => by
    rw [List.length_cons] at hl
    obtain ⟨h1, h2⟩ := hs 0 d acc μ rfl h0
    refine ⟨h1, h2 _ _ (fun y μ3 hi => ⟨by omega, ?_⟩) (fun μ2 hi => ?_)⟩
    · refine comp_invA I ds _ μ3 (k + 1) (fun i e acc μ he hi => ?_) (by simp; omega) hi (fun acc μ hi => ?_)
      · have := hs (i + 1) e acc μ (by simpa using he) (by rw [show k + (i + 1) = k + 1 + i from by omega]; exact hi)
        rw [show k + (i + 1) + 1 = k + 1 + i + 1 from by omega] at this
        exact this
      · exact he acc μ (by rw [List.length_cons, show k + (ds.length + 1) = k + 1 + ds.length from by omega]; exact hi)
    · refine comp_invA I ds _ μ2 (k + 1) (fun i e acc μ he hi => ?_) (by omega) hi (fun acc μ hi => ?_)
      · have := hs (i + 1) e acc μ (by simpa using he) (by rw [show k + (i + 1) = k + 1 + i from by omega]; exact hi)
        rw [show k + (i + 1) + 1 = k + 1 + i + 1 from by omega] at this
        exact this
      · exact he acc μ (by rw [List.length_cons, show k + (ds.length + 1) = k + 1 + ds.length from by omega]; exact hi)
/-- a comprehension by an invariant: the turn's number, what is gathered, the cells -/
theorem comp_inv {src : Option (Nat × List D)} {g : D → Gam → Mu → (Gam → Prop) → Prop} {tt : DTT} {te : DTE} {Γ : Gam} {Q : List D → Mu → Prop} (I : Nat → List D → Mu → Prop) {ds : List D} {μ : Mu} (h0 : I 0 [] μ) (hl : ds.length ≤ sizeLine)
    (hs : ∀ i d acc μ, ds[i]? = some d → I i acc μ → Gd src μ ∧ ∀ (K1 : D → Mu → Prop) (K2 : Mu → Prop), (∀ y μ3, I (i + 1) (acc ++ [y]) μ3 → K1 y μ3) → (∀ μ2, I (i + 1) acc μ2 → K2 μ2) → g d Γ μ fun Γ1 => tt Γ1 μ (fun b μ2 => cond b (te Γ1 μ2 K1 fun _ _ => False) (K2 μ2)) fun _ _ => False)
    (he : ∀ acc μ, I ds.length acc μ → Gd src μ ∧ Q acc μ) : dCompL src g tt te Γ ds [] μ Q :=
  comp_invA I ds [] μ 0 (fun i d acc μ h => by rw [Nat.zero_add]; exact hs i d acc μ h) (by simpa using hl) h0 (fun acc μ h => he acc μ (by simpa using h))
theorem loop_invA {src : Option (Nat × List D)} {g : DTG} {body : DTS} {De : DEnds} (I : Nat → Gam → Mu → Prop) : ∀ (ds : List D) (Γ : Gam) (μ : Mu) (k : Nat),
    (∀ i d Γ μ, ds[i]? = some d → I (k + i) Γ μ → Gd src μ ∧ ∀ (Kn : Gam → Mu → Prop), (∀ Γ' μ', I (k + i + 1) Γ' μ' → Kn Γ' μ') → g d Γ μ (fun Γ1 μ1 => body { De with nx := Kn, ct := Kn, bk := De.nx } Γ1 μ1) (fun x μ1 => De.ex x Γ μ1)) →
    I k Γ μ → (∀ Γ μ, I (k + ds.length) Γ μ → Gd src μ ∧ De.nx Γ μ) → dLoop src g body ds De Γ μ
  | [], Γ, μ, k, _, h0, he => he Γ μ h0
  | d :: ds, Γ, μ, k, hs, h0, he => by
    obtain ⟨h1, h2⟩ := hs 0 d Γ μ rfl h0
    refine ⟨h1, h2 _ fun Γ' μ' hi => ?_⟩
    refine loop_invA I ds Γ' μ' (k + 1) (fun i e Γ μ he hi => ?_) hi (fun Γ μ hi => ?_)
    · have := hs (i + 1) e Γ μ (by simpa using he) (by rw [show k + (i + 1) = k + 1 + i from by omega]; exact hi)
      rw [show k + (i + 1) + 1 = k + 1 + i + 1 from by omega] at this
      exact this
    · exact he Γ μ (by rw [List.length_cons, show k + (ds.length + 1) = k + 1 + ds.length from by omega]; exact hi)
theorem loop_inv {src : Option (Nat × List D)} {g : DTG} {body : DTS} {De : DEnds} (I : Nat → Gam → Mu → Prop) {ds : List D} {Γ : Gam} {μ : Mu} (h0 : I 0 Γ μ)
    (hs : ∀ i d Γ μ, ds[i]? = some d → I i Γ μ → Gd src μ ∧ ∀ (Kn : Gam → Mu → Prop), (∀ Γ' μ', I (i + 1) Γ' μ' → Kn Γ' μ') → g d Γ μ (fun Γ1 μ1 => body { De with nx := Kn, ct := Kn, bk := De.nx } Γ1 μ1) (fun x μ1 => De.ex x Γ μ1))
    (he : ∀ Γ μ, I ds.length Γ μ → Gd src μ ∧ De.nx Γ μ) : dLoop src g body ds De Γ μ :=
  loop_invA I ds Γ μ 0 (fun i d Γ μ h => by rw [Nat.zero_add]; exact hs i d Γ μ h) h0 (fun Γ μ h => he Γ μ (by simpa using h))
theorem irng_get {lo : Int} {n i : Nat} {d : D} (h : (irng lo n)[i]? = some d) : i < n ∧ d = .int (lo + i) := by
  unfold irng at h
  rw [List.getElem?_map, Option.map_eq_some_iff] at h
  obtain ⟨j, h1, h2⟩ := h
  obtain ⟨h3, h4⟩ := List.getElem?_eq_some_iff.mp h1
  simp at h3 h4
  subst h4
  exact ⟨h3, h2.symm⟩
theorem irng_len (lo : Int) (n : Nat) : (irng lo n).length = n := by simp [irng]
/-! the oracle's cell -/
def M (μ : Mu) (l c : Nat) : Mu := μ.set l (.orc (c, true))
theorem M_get {μ : Mu} {l c : Nat} (h : l < μ.length) : (M μ l c)[l]? = some (.orc (c, true)) := by unfold M; rw [List.getElem?_set_self h]
theorem M_set {μ : Mu} {l c c' : Nat} : (M μ l c).set l (.orc (c', true)) = M μ l c' := by unfold M; rw [List.set_set]
theorem M_id {μ : Mu} {l c : Nat} (h : μ[l]? = some (.orc (c, true))) : M μ l c = μ := by
  obtain ⟨h1, h2⟩ := List.getElem?_eq_some_iff.mp h
  unfold M
  rw [← h2, List.set_getElem_self]
theorem M_len {μ : Mu} {l c : Nat} : (M μ l c).length = μ.length := by unfold M; rw [List.length_set]
theorem M_app {μ loc : Mu} {l c : Nat} (h : l < μ.length) : M (μ ++ loc) l c = M μ l c ++ loc := by unfold M; rw [List.set_append_left _ _ h]
theorem M_ne {μ : Mu} {l c j : Nat} (h : l ≠ j) : (M μ l c)[j]? = μ[j]? := by unfold M; rw [List.getElem?_set_ne h]
theorem M_upd {μ : Mu} {l c : Nat} : Upd μ (M μ l c) := (Upd.refl μ).set rfl
theorem orc_lt {μ : Mu} {l c : Nat} (h : μ[l]? = some (.orc (c, true))) : l < μ.length := (List.getElem?_eq_some_iff.mp h).1
theorem draw_M {μ : Mu} {l c : Nat} {m : Int} {Q : D → Mu → Prop} {E : Exn → Mu → Prop} (h : l < μ.length) (hc : 0 < c) (hm : 0 < m) (hm2 : m.natAbs < 2 ^ 60) (q : ∀ d, 0 ≤ d → d < m → Q (.int d) (M μ l (c - 1))) : S_draw [.ref l, .int m] (M μ l c) Q E :=
  draw_go (M_get h) hc hm (Nat.lt_of_lt_of_le (PySem.Flt.log2_lt_of (by decide) hm2) (by decide)) fun d h1 h2 => by rw [M_set]; exact q d h1 h2
/-! equality of texts, and of rows of them -/
theorem eqv_strs : ∀ (k j : Nat) (xs ys : List Str), PyData.eqv (.list ((xs.map D.str).map (D.py k))) (.list ((ys.map D.str).map (D.py j))) = decide (xs = ys) := by
  intro k j xs ys
  have e1 : (xs.map D.str).map (D.py k) = xs.map PyData.str := by
    rw [List.map_map]; congr 1; funext x; cases k <;> rfl
  have e2 : (ys.map D.str).map (D.py j) = ys.map PyData.str := by
    rw [List.map_map]; congr 1; funext x; cases j <;> rfl
  rw [e1, e2]
  simp only [PyData.eqv]
  have aux : ∀ xs ys : List Str, PyData.eqvAll (xs.map .str) (ys.map .str) = decide (xs = ys) := by
    intro xs
    induction xs with
    | nil => intro ys; cases ys <;> simp [PyData.eqvAll]
    | cons x xs ih =>
      intro ys
      cases ys with
      | nil => simp [PyData.eqvAll]
      | cons y ys =>
        simp only [List.map_cons, PyData.eqvAll, PyData.eqv, ih, List.cons.injEq]
        by_cases h : x = y <;> simp [h]
  exact aux xs ys
theorem okn_strs {xs : List Str} (h : ∀ x ∈ xs, asc x) (k : Nat) : (xs.map D.str).all (D.okn k) = true := by
  rw [List.all_eq_true]
  intro d hd
  obtain ⟨t, ht, rfl⟩ := List.mem_map.mp hd
  cases k <;> exact asc_ok (h t ht)
end DV
/-! Words: plain facts on the names that a law draws. -/
namespace DV
open PySem PySem.Spec PyProof.Rows L2
def SG : Str := "abcdefghijklmnopqrstuvwxyz0123456789"
theorem sg_len : SG.length = 36 := by decide +kernel
theorem sg_low : ∀ i : Nat, i < 26 → SG.cps.toList[i]? = some (97 + i) := by decide +kernel
theorem sg_all : ∀ i : Nat, i < 36 → ∃ c, SG.cps.toList[i]? = some c ∧ isAln c = true ∧ c < 128 := by decide +kernel
theorem low_let : ∀ i : Nat, i < 26 → isLet (97 + i) = true ∧ isAln (97 + i) = true := by decide +kernel
theorem sg_at {i : Int} (h0 : 0 ≤ i) (h1 : i < 36) : ∃ c, atI SG.cps.toList i = some c ∧ isAln c = true ∧ c < 128 := by
  obtain ⟨c, h2, h3⟩ := sg_all i.toNat (by omega)
  exact ⟨c, atI_nat' h0 h2, h3⟩
theorem sg_let {i : Int} (h0 : 0 ≤ i) (h1 : i < 26) : atI SG.cps.toList i = some (97 + i.toNat) := atI_nat' h0 (sg_low i.toNat (by omega))
/-- a word of letters and digits -/
def aln (z : Str) : Prop := ∀ c ∈ z.cps.toList, isAln c = true ∧ c < 128
theorem aln_app2 {a b : Str} (ha : aln a) (hb : aln b) : aln (a ++ b) := fun c hc => by
  rw [cps_app] at hc
  rcases List.mem_append.mp hc with h | h
  · exact ha c h
  · exact hb c h
theorem aln_one {c : Nat} (h : isAln c = true) (h2 : c < 128) : aln ⟨#[c]⟩ := fun d hd => by
  have : d = c := by simpa using hd
  subst this; exact ⟨h, h2⟩
theorem aln_nil : aln "" := fun c hc => by
  have : (Str.ofString "").cps.toList = [] := by decide +kernel
  exact absurd (show c ∈ (Str.ofString "").cps.toList from hc) (by rw [this]; simp)
theorem aln_join {ts : List Str} (h : ∀ t ∈ ts, aln t) : aln (Txt.join "" ts) := fun c hc => by
  rw [TL.join_eq, join0] at hc
  obtain ⟨l, hl, hcl⟩ := List.mem_flatten.mp hc
  obtain ⟨t, ht, rfl⟩ := List.mem_map.mp hl
  exact h t ht c hcl
theorem valid_of {z : Str} {c : Nat} {r : List Nat} (h : aln z) (e : z.cps.toList = c :: r) (hc : isLet c = true) (hl : z.length ≤ 6) : validN z = true := by
  unfold validN validC
  have h1 : z.cps.toList.length ≤ 6 := by rw [← len_list]; exact hl
  have h2 : z.cps.toList.all isAln = true := List.all_eq_true.mpr fun d hd => (h d hd).1
  rw [h2]
  rw [e] at h1 ⊢
  simp only [hc, Bool.and_true]
  simp at h1 ⊢
  omega
theorem valid_asc {z : Str} (h : validN z = true) : asc z ∧ z.length ≤ 6 ∧ 1 ≤ z.length := by
  unfold validN validC at h
  simp only [Bool.and_eq_true, decide_eq_true_eq] at h
  obtain ⟨⟨⟨h1, h2⟩, h3⟩, h4⟩ := h
  have z1 : ∀ c ∈ LET.cps.toList, c < 128 := by decide +kernel
  have z2 : ∀ c ∈ DIG.cps.toList, c < 128 := by decide +kernel
  refine ⟨fun c hc => ?_, by rw [len_list]; exact h2, by rw [len_list]; exact h1⟩
  have q := List.all_eq_true.mp h4 c hc
  unfold isAln at q
  simp only [Bool.or_eq_true, decide_eq_true_eq] at q
  exact q.elim (z1 c) (z2 c)
/-! numbers below 64 as texts -/
def digs (i : Nat) : List Nat := if i < 10 then [48 + i] else [48 + i / 10, 48 + i % 10]
theorem dig_str : ∀ i : Nat, i < 100 → (Str.ofString (toString (i : Int))).cps.toList = digs i := by decide +kernel
theorem digs_inj {i j : Nat} (hi : i < 100) (hj : j < 100) (h : digs i = digs j) : i = j := by
  unfold digs at h
  split at h <;> split at h <;> simp at h <;> omega
theorem dig_aln : ∀ i : Nat, i < 10 → isAln (48 + i) = true := by decide +kernel
theorem digs_aln {i : Nat} (hi : i < 100) : ∀ c ∈ digs i, isAln c = true ∧ c < 128 := by
  intro c hc
  unfold digs at hc
  split at hc
  · have : c = 48 + i := by simpa using hc
    subst this; exact ⟨dig_aln i (by omega), by omega⟩
  · simp at hc
    rcases hc with rfl | rfl
    · exact ⟨dig_aln _ (by omega), by omega⟩
    · exact ⟨dig_aln _ (by omega), by omega⟩
theorem digs_len (i : Nat) : (digs i).length ≤ 2 := by unfold digs; split <;> simp
theorem str_ext {a b : Str} (h : a.cps.toList = b.cps.toList) : a = b := by
  cases a with | mk x => cases b with | mk y => simp at h; subst h; rfl
/-- what is known of drawn names -/
structure Wds (k : Nat) (ws : List Str) : Prop where
  len : ws.length = k
  nd : ws.Nodup
  ok : ∀ w ∈ ws, validN w = true
theorem wds_map {k : Nat} {f : Nat → Str} (hv : ∀ i, i < k → validN (f i) = true) (hi : ∀ i j, i < k → j < k → f i = f j → i = j) : Wds k ((List.range k).map f) := by
  refine ⟨by simp, ?_, fun w hw => ?_⟩
  · rw [List.nodup_iff_pairwise_ne, List.pairwise_map]
    refine List.Pairwise.imp_of_mem (fun {a b} ha hb hne e => hne (hi a b (List.mem_range.mp ha) (List.mem_range.mp hb) e)) (List.nodup_iff_pairwise_ne.mp List.nodup_range)
  · obtain ⟨i, h1, rfl⟩ := List.mem_map.mp hw
    exact hv i (List.mem_range.mp h1)
end DV
local macro_rules | `(tactic| walk_at "dv") => `(tactic| try simp only [DV.dSeq, DV.dIf, DV.dOrT, DV.dAndT, DV.dNotT, DV.dTest, DV.dChain, DV.dC, DV.dCall, DV.gLen, DV.dCons, DV.dVar, DV.dNil, DV.dBin, DV.dUn, DV.gNeg, DV.gIn, DV.gIx, DV.dRet, DV.dRetN, DV.dNext, DV.dFor, DV.dIter, DV.dName, DV.lk, DV.dAsg, DV.dDrop, DV.gLst, DV.gTup, DV.gLstM, DV.gAdd, DV.gI, DV.gMod, DV.gMul, DV.gFdiv, DV.gPow, DV.gAbs, DV.gInt, DV.gList, DV.gTuple, DV.dOp, DV.dOpK, DV.dIsi, DV.tyD, DV.gIs, DV.gIsNot, DV.D.isN, DV.dJoin, DV.dCellM, DV.dSetI, DV.dSlice, DV.dPart, DV.dNoPart, DV.dRevA, DV.dFin, DV.dAugI, DV.dComp, DV.wipeG, DV.cName, DV.cPair, DV.dYes, DV.dRange1, DV.dRange2, DV.dAnd, DV.dOr, DV.dNot, DV.dIfE, DV.gEq, DV.gNe, DV.sgn_one, DV.atI_zero, DV.dTruth, DV.truD, DV.dBreak, DV.dCont, DV.gSorted, DV.dSortK, DV.dRevT, DV.gInD, DV.gIsB, DV.gStr, DV.dPop0, DV.dDict, DV.dPairs, DV.keysD, DV.keyOfD, DV.dFinD, DV.dFld, DV.dSetF, DV.dMake, DV.dMethod, DV.dProp, DV.dOwnIx, DV.dNever,
  List.getElem?_cons_zero, List.getElem?_cons_succ, List.set_cons_zero, List.set_cons_succ, List.map_cons, List.map_nil, List.length_cons, List.length_nil, List.replicate, List.cons_append, List.nil_append, DV.start0, if_true, if_false, Bool.not_true, Bool.not_false, Bool.false_eq_true, Bool.true_and, Bool.and_true, Bool.or_true, Bool.true_or, Bool.false_or, Bool.or_false, eq_self_iff_true, not_true_eq_false, not_false_eq_true, ite_true, ite_false, cond_true, cond_false])
/-! The reading of the law's own `_law_names`. -/
namespace DV
open PySem PySem.Spec PyProof.Rows L2
def t_names_11 : DTS := dRet (dVar 10)
def t_names_10 : DTS := dSeq (dFor (dRange1 (dVar 1)) (dName 11) (dSeq (dAsg (dBin gIx (dVar 2) (dBin gMod (dCall gInt (dCons (dBin gAdd (dVar 5) (dBin gMul (dVar 6) (dVar 11))) dNil)) (dC (.int 26)))) (dName 12)) (dSeq (dAsg (dBin gIx (dCall gLst (dCons (dVar 3) (dCons (dC (.str "")) (dNil)))) (dCall gInt (dCons (dAnd (dBin (gI fun i j => .bl (decide (j < i))) (dVar 7) (dC (.int 1))) (dBin gEq (dBin gMod (dVar 11) (dC (.int 2))) (dC (.int 1)))) dNil))) (dName 13)) (dDrop (dCellM cAppend (dVar 10) (dCons (dBin gIx (dCall gLst (dCons (dBin gAdd (dBin gAdd (dVar 4) (dVar 13)) (dVar 12)) (dCons (dBin gAdd (dVar 12) (dVar 13)) (dNil)))) (dBin gMod (dCall gInt (dCons (dVar 7) dNil)) (dC (.int 2)))) dNil)))))) t_names_11
def t_names_9 : DTS := dSeq (dAsg (dCall gLstM (dNil)) (dName 10)) t_names_10
def t_names_8 : DTS := dSeq (dIf (dTest (dBin gEq (dVar 7) (dC (.int 5)))) (dSeq (dAsg (dBin gAdd (dVar 4) (dJoin (dC (.str "")) (dComp true [11] (dRange1 (dC (.int 5))) (cName 11) (dYes) (dBin gIx (dVar 2) (dOp S_draw (dCons (dVar 0) (dCons (dC (.int 36)) (dNil)))))))) (dName 9)) (dRet (dComp true [11] (dRange1 (dVar 1)) (cName 11) (dYes) (dSlice true (dVar 9) dNoPart (dPart (dBin gAdd (dVar 11) (dC (.int 1)))))))) (dNext)) t_names_9
def t_names_7 : DTS := dSeq (dIf (dOrT (dTest (dBin gEq (dVar 7) (dC (.int 4)))) (dAndT (dTest (dBin gEq (dVar 7) (dC (.int 5)))) (dTest (dBin (gI fun i j => .bl (decide (j < i))) (dVar 1) (dC (.int 6)))))) (dSeq (dAsg (dBin gAdd (dC (.int 1)) (dOp S_draw (dCons (dVar 0) (dCons (dC (.int 9)) (dNil))))) (dName 8)) (dRet (dComp true [11] (dRange1 (dVar 1)) (cName 11) (dYes) (dBin gAdd (dVar 4) (dCall gStr (dCons (dBin gMul (dVar 8) (dBin gAdd (dVar 11) (dC (.int 1)))) dNil)))))) (dNext)) t_names_8
def t_names_6 : DTS := dSeq (dIf (dAndT (dTest (dBin gEq (dVar 7) (dC (.int 6)))) (dTest (dBin (gI fun i j => .bl (decide (i < j))) (dVar 1) (dC (.int 7))))) (dRet (dSlice true (dCall gLst (dCons (dC (.str "rows")) (dCons (dC (.str "leaf")) (dCons (dC (.str "x")) (dCons (dC (.str "x1")) (dCons (dC (.str "x10")) (dCons (dC (.str "none")) (dNil)))))))) dNoPart (dPart (dVar 1)))) (dNext)) t_names_7
def t_names_5 : DTS := dSeq (dAsg (dOp S_draw (dCons (dVar 0) (dCons (dC (.int 7)) (dNil)))) (dName 7)) t_names_6
def t_names_4 : DTS := dSeq (dAsg (dBin gIx (dCall gLst (dCons (dC (.int 1)) (dCons (dC (.int 3)) (dCons (dC (.int 5)) (dCons (dC (.int 7)) (dCons (dC (.int 9)) (dCons (dC (.int 11)) (dNil)))))))) (dOp S_draw (dCons (dVar 0) (dCons (dC (.int 6)) (dNil))))) (dName 6)) t_names_5
def t_names_3 : DTS := dSeq (dAsg (dOp S_draw (dCons (dVar 0) (dCons (dC (.int 26)) (dNil)))) (dName 5)) t_names_4
def t_names_2 : DTS := dSeq (dAsg (dBin gIx (dVar 2) (dOp S_draw (dCons (dVar 0) (dCons (dC (.int 26)) (dNil))))) (dName 4)) t_names_3
def t_names_1 : DTS := dSeq (dAsg (dJoin (dC (.str "")) (dComp true [11] (dRange1 (dOp S_draw (dCons (dVar 0) (dCons (dC (.int 5)) (dNil))))) (cName 11) (dYes) (dBin gIx (dVar 2) (dOp S_draw (dCons (dVar 0) (dCons (dC (.int 36)) (dNil))))))) (dName 3)) t_names_2
def t_names : DTS := dSeq (dAsg (dC (.str "abcdefghijklmnopqrstuvwxyz0123456789")) (dName 2)) t_names_1
def S_names : DSp := fun ds μ Q _ => ∃ l c k, ds = [.ref l, .int k] ∧ μ[l]? = some (.orc (c, true)) ∧ 20 ≤ c ∧ 0 ≤ k ∧ k ≤ 8 ∧
  ∀ c' ws, c' ≤ c → c ≤ c' + 20 → Wds k.toNat ws → Q (.lst (ws.map .str)) (μ.set l (.orc (c', true)))
/-- signs drawn of SG, i at a time -/
theorem comp_sg {μ : Mu} {l c : Nat} {Γ : Gam} {Q : List D → Mu → Prop} {n : Nat} (hl : l < μ.length) (hn : n ≤ 100) (hc : n ≤ c) (g0 : Γ[0]? = some (some (.ref l))) (g2 : Γ[2]? = some (some (.str SG)))
    (q : ∀ ts : List Str, ts.length = n → (∀ t ∈ ts, aln t ∧ t.length = 1) → Q (ts.map .str) (M μ l (c - n))) :
    dCompL none (cName 11) dYes (dBin gIx (dVar 2) (dOp S_draw (dCons (dVar 0) (dCons (dC (.int 36)) dNil)))) Γ (irng 0 n) [] (M μ l c) Q := by
  refine comp_inv (fun i acc μ' => ∃ ts : List Str, acc = ts.map .str ∧ ts.length = i ∧ (∀ t ∈ ts, aln t ∧ t.length = 1) ∧ i ≤ n ∧ μ' = M μ l (c - i)) ⟨[], rfl, rfl, by simp, by omega, by simp⟩ (by rw [irng_len, sizeLine_eq]; omega) ?_ ?_
  · rintro i d acc μ' hd ⟨ts, rfl, h1, h2, h3, rfl⟩
    obtain ⟨hi, rfl⟩ := irng_get hd
    refine ⟨trivial, fun K1 K2 k1 k2 => ?_⟩
    have e0 : (Γ.set 11 (some (D.int (0 + (i : Int)))))[0]? = some (some (.ref l)) := by rw [List.getElem?_set_ne (by decide)]; exact g0
    have e2 : (Γ.set 11 (some (D.int (0 + (i : Int)))))[2]? = some (some (.str SG)) := by rw [List.getElem?_set_ne (by decide)]; exact g2
    simp only [cName, dYes, cond_true, dBin, dVar, e0, e2, dOp, dCons, dC, dNil]
    refine draw_M hl (by omega) (by decide) (by decide) fun j j0 j1 => ?_
    obtain ⟨ch, a1, a2, a3⟩ := sg_at j0 j1
    simp only [gIx, lk, a1]
    refine ⟨by rw [sg_len, sizeLine_eq]; omega, k1 _ _ ⟨ts ++ [⟨#[ch]⟩], by simp, by simp [h1], fun t ht => ?_, by omega, by congr 1⟩⟩
    rcases List.mem_append.mp ht with z | z
    · exact h2 t z
    · rw [List.mem_singleton.mp z]; exact ⟨aln_one a2 a3, rfl⟩
  · rintro acc μ' ⟨ts, rfl, h1, h2, h3, rfl⟩
    rw [irng_len] at h1 h3 ⊢
    exact ⟨trivial, q ts h1 h2⟩
/-- the end of names: a list as data -/
theorem names_end {μ : Mu} {l c c' : Nat} {k : Int} {ws : List Str} {Q : D → Mu → Prop} (hc : c' ≤ c) (hc2 : c ≤ c' + 20) (hw : Wds k.toNat ws) (q : ∀ c' ws, c' ≤ c → c ≤ c' + 20 → Wds k.toNat ws → Q (.lst (ws.map .str)) (μ.set l (.orc (c', true)))) :
    FnEnd μ (.lst (ws.map .str)) (M μ l c') Q := by
  refine FnEnd.pure0 M_upd ?_ (q c' ws hc hc2 hw)
  show D.puL _ = true
  clear hw q
  induction ws with
  | nil => rfl
  | cons w ws ih => exact ih
theorem len_pre (c : Nat) (z : Str) : ((⟨#[c]⟩ : Str) ++ z).cps.toList = c :: z.cps.toList := by rw [cps_app]; rfl
theorem len_one1 (c : Nat) : (⟨#[c]⟩ : Str).length = 1 := rfl
theorem lenz (z : Str) : (Str.ofString "").length = 0 := by decide +kernel
/-- the words letter + back + sign, or sign + back -/
theorem wds_signs {k : Int} {stem : Str} {lc : Nat} {o st : Int} {plan : Int} (hk0 : 0 ≤ k) (hk : k ≤ 8) (ha : aln stem) (hs : stem.length ≤ 4) (hl : lc < 26) (ho : 0 ≤ o ∧ o < 26) (hst : st = 1 ∨ st = 3 ∨ st = 5 ∨ st = 7 ∨ st = 9 ∨ st = 11) (back : Nat → Str) (hb : ∀ i, back i = stem ∨ back i = "") :
    Wds k.toNat ((List.range k.toNat).map fun i => if plan % 2 = 0 then (⟨#[97 + lc]⟩ : Str) ++ back i ++ ⟨#[97 + ((o + st * i) % 26).toNat]⟩ else (⟨#[97 + ((o + st * i) % 26).toNat]⟩ : Str) ++ back i) := by
  have sg : ∀ i : Nat, ((o + st * i) % 26).toNat < 26 := fun i => by have := Int.emod_lt_of_pos (o + st * i) (show (0 : Int) < 26 by decide); have := Int.emod_nonneg (o + st * i) (show (26 : Int) ≠ 0 by decide); omega
  have hba : ∀ i, aln (back i) ∧ (back i).length ≤ 4 := fun i => by
    rcases hb i with e | e <;> rw [e]
    · exact ⟨ha, hs⟩
    · exact ⟨aln_nil, by rw [lenz stem]; omega⟩
  have inj : ∀ i j : Nat, i < k.toNat → j < k.toNat → ((o + st * i) % 26).toNat = ((o + st * j) % 26).toNat → i = j := fun i j hi hj e => by
    have a1 := Int.emod_nonneg (o + st * i) (show (26 : Int) ≠ 0 by decide)
    have a2 := Int.emod_nonneg (o + st * j) (show (26 : Int) ≠ 0 by decide)
    rcases hst with rfl | rfl | rfl | rfl | rfl | rfl <;> omega
  refine wds_map (fun i hi => ?_) fun i j hi hj e => ?_
  · obtain ⟨b1, b2⟩ := hba i
    split
    · refine valid_of (aln_app2 (aln_app2 (aln_one (low_let lc hl).2 (by omega)) b1) (aln_one (low_let _ (sg i)).2 (by have := sg i; omega))) (c := 97 + lc) (r := (back i).cps.toList ++ [97 + ((o + st * i) % 26).toNat]) ?_ (low_let lc hl).1 ?_
      · rw [cps_app, len_pre]; rfl
      · rw [len_app, len_app, len_one1, len_one1]; omega
    · refine valid_of (aln_app2 (aln_one (low_let _ (sg i)).2 (by have := sg i; omega)) b1) (len_pre _ _) (low_let _ (sg i)).1 ?_
      rw [len_app, len_one1]; omega
  · refine inj i j hi hj ?_
    split at e
    · have e2 := congrArg (fun z : Str => z.cps.toList.getLast?) e
      have g : ∀ (a : Str) (c : Nat), (a ++ (⟨#[c]⟩ : Str)).cps.toList.getLast? = some c := fun a c => by rw [cps_app]; exact List.getLast?_concat
      simp only [g, Option.some.injEq] at e2
      omega
    · have e2 := congrArg (fun z : Str => z.cps.toList) e
      simp only [len_pre, List.cons.injEq] at e2
      omega
/-- letter + str(step * (k + 1)) -/
theorem wds_nums {k : Int} {lc : Nat} {st : Int} (hk0 : 0 ≤ k) (hk : k ≤ 8) (hl : lc < 26) (h1 : 1 ≤ st) (h2 : st ≤ 9) : Wds k.toNat ((List.range k.toNat).map fun i : Nat => (⟨#[97 + lc]⟩ : Str) ++ Str.ofString (toString (st * ((i : Int) + 1)))) := by
  have b : ∀ i : Nat, i < k.toNat → 0 ≤ st * ((i : Int) + 1) ∧ st * ((i : Int) + 1) < 100 := fun i hi => by
    have : st = 1 ∨ st = 2 ∨ st = 3 ∨ st = 4 ∨ st = 5 ∨ st = 6 ∨ st = 7 ∨ st = 8 ∨ st = 9 := by omega
    rcases this with rfl | rfl | rfl | rfl | rfl | rfl | rfl | rfl | rfl <;> omega
  have ds : ∀ i : Nat, i < k.toNat → (Str.ofString (toString (st * ((i : Int) + 1)))).cps.toList = digs (st * ((i : Int) + 1)).toNat := fun i hi => by
    have := dig_str (st * ((i : Int) + 1)).toNat (by have := b i hi; omega)
    rw [show (((st * ((i : Int) + 1)).toNat : Nat) : Int) = st * ((i : Int) + 1) from by have := b i hi; omega] at this
    exact this
  refine wds_map (fun i hi => ?_) fun i j hi hj e => ?_
  · have h3 : aln (Str.ofString (toString (st * ((i : Int) + 1)))) := fun c hc => by
      rw [ds i hi] at hc
      exact digs_aln (by have := b i hi; omega) c hc
    refine valid_of (aln_app2 (aln_one (low_let lc hl).2 (by omega)) h3) (len_pre _ _) (low_let lc hl).1 ?_
    rw [len_app, len_one1, len_list, ds i hi]
    have := digs_len (st * ((i : Int) + 1)).toNat
    omega
  · have e2 := congrArg (fun z : Str => z.cps.toList) e
    simp only [len_pre, List.cons.injEq, true_and] at e2
    rw [ds i hi, ds j hj] at e2
    have e3 := digs_inj (by have := b i hi; omega) (by have := b j hj; omega) e2
    have e4 : st * ((i : Int) + 1) = st * ((j : Int) + 1) := by have := b i hi; have := b j hj; omega
    have : st = 1 ∨ st = 2 ∨ st = 3 ∨ st = 4 ∨ st = 5 ∨ st = 6 ∨ st = 7 ∨ st = 8 ∨ st = 9 := by omega
    rcases this with rfl | rfl | rfl | rfl | rfl | rfl | rfl | rfl | rfl <;> omega
theorem menu6 {i : Int} (h0 : 0 ≤ i) (h1 : i < 6) : ∃ b : Int, atI [D.int 1, D.int 3, D.int 5, D.int 7, D.int 9, D.int 11] i = some (.int b) ∧ (b = 1 ∨ b = 3 ∨ b = 5 ∨ b = 7 ∨ b = 9 ∨ b = 11) := by
  have : i = 0 ∨ i = 1 ∨ i = 2 ∨ i = 3 ∨ i = 4 ∨ i = 5 := by omega
  rcases this with rfl | rfl | rfl | rfl | rfl | rfl
  · exact ⟨1, rfl, by simp⟩
  · exact ⟨3, rfl, by simp⟩
  · exact ⟨5, rfl, by simp⟩
  · exact ⟨7, rfl, by simp⟩
  · exact ⟨9, rfl, by simp⟩
  · exact ⟨11, rfl, by simp⟩
theorem nodupC : Wds 6 (["rows", "leaf", "x", "x1", "x10", "none"] : List Str) := ⟨rfl, by decide +kernel, by decide +kernel⟩
theorem cut_to {α : Type} (xs : List α) {k : Int} (h0 : 0 ≤ k) : cutL xs none (some k) = xs.take k.toNat := by
  unfold cutL
  have h1 : HT.sIx xs.length 0 none = 0 := rfl
  have h2 : HT.sIx xs.length xs.length (some k) = min k.toNat xs.length := by
    simp only [HT.sIx]
    first | (split <;> omega) | omega
  rw [h1, h2]
  simp only [List.drop_zero, Nat.sub_zero]
  rcases Nat.le_total k.toNat xs.length with h | h
  · rw [Nat.min_eq_left h]
  · rw [Nat.min_eq_right h, List.take_of_length_le h, List.take_length]
def wordAt (stem : Str) (lc : Nat) (o st plan : Int) (i : Nat) : Str := if plan % 2 = 0 then (⟨#[97 + lc]⟩ : Str) ++ (if 1 < plan ∧ i % 2 = 1 then Str.ofString "" else stem) ++ ⟨#[97 + ((o + st * i) % 26).toNat]⟩ else (⟨#[97 + ((o + st * i) % 26).toNat]⟩ : Str) ++ (if 1 < plan ∧ i % 2 = 1 then Str.ofString "" else stem)
theorem names_9 {μ : Mu} {l c c' lc : Nat} {k o st plan : Int} {stem : Str} {Q : D → Mu → Prop} {E : Exn → Mu → Prop} (hl : l < μ.length) (hk0 : 0 ≤ k) (hk8 : k ≤ 8) (hc1 : c' ≤ c) (hc2 : c ≤ c' + 9) (ha : aln stem) (hs : stem.length ≤ 4) (hlc : lc < 26) (ho : 0 ≤ o ∧ o < 26)
    (hst : st = 1 ∨ st = 3 ∨ st = 5 ∨ st = 7 ∨ st = 9 ∨ st = 11) (hp : 0 ≤ plan ∧ plan < 7) (q : ∀ c' ws, c' ≤ c → c ≤ c' + 20 → Wds k.toNat ws → Q (.lst (ws.map .str)) (μ.set l (.orc (c', true)))) :
    t_names_9 (dFn μ Q E) [some (.ref l), some (.int k), some (.str SG), some (.str stem), some (.str ⟨#[97 + lc]⟩), some (.int o), some (.int st), some (.int plan), none, none, none, none, none, none] (M μ l c') := by
  unfold t_names_9
  walk_at "dv"
  refine ⟨by decide, ?_⟩
  unfold t_names_10
  walk_at "dv"
  rw [M_len]
  refine ⟨by omega, loop_inv (fun i Γ μ' => ∃ x11 x12 x13, Γ = [some (.ref l), some (.int k), some (.str SG), some (.str stem), some (.str ⟨#[97 + lc]⟩), some (.int o), some (.int st), some (.int plan), none, none, some (.ref μ.length), x11, x12, x13] ∧ i ≤ k.toNat ∧
    μ' = M μ l c' ++ [.lst (((List.range i).map (wordAt stem lc o st plan)).map .str)]) ⟨none, none, none, rfl, by omega, rfl⟩ ?_ ?_⟩
  · rintro i d Γ μ' hd ⟨x11, x12, x13, rfl, hi, rfl⟩
    obtain ⟨hi, rfl⟩ := irng_get hd
    refine ⟨trivial, fun Kn kn => ?_⟩
    have em : (o + st * (0 + (i : Int))).fmod 26 = (o + st * i) % 26 := by rw [Int.fmod_eq_emod_of_nonneg _ (by decide), Int.zero_add]
    have a1 := Int.emod_nonneg (o + st * i) (show (26 : Int) ≠ 0 by decide)
    have a2 := Int.emod_lt_of_pos (o + st * i) (show (0 : Int) < 26 by decide)
    have gx : (M μ l c' ++ [Cell.lst (((List.range i).map (wordAt stem lc o st plan)).map D.str)])[μ.length]? = some (.lst (((List.range i).map (wordAt stem lc o st plan)).map D.str)) := by rw [List.getElem?_append_right (by rw [M_len]; omega), M_len]; simp
    walk_at "dv"
    refine ⟨by rcases hst with rfl | rfl | rfl | rfl | rfl | rfl <;> simp, by decide, by rw [sg_len, sizeLine_eq]; omega, ?_⟩
    rw [em, sg_let a1 a2]
    dsimp only
    refine ⟨by rw [sizeLine_eq]; omega, ?_⟩
    have pm : plan.fmod 2 = plan % 2 := Int.fmod_eq_emod_of_nonneg _ (by decide)
    have im : (0 + (i : Int)).fmod 2 = ((i % 2 : Nat) : Int) := by rw [Int.fmod_eq_emod_of_nonneg _ (by decide)]; omega
    have ld : ∀ z : Str, lk (M μ l c' ++ [Cell.lst (((List.range i).map (wordAt stem lc o st plan)).map D.str)]) (D.str z) = D.str z := fun _ => rfl
    have fin : ∀ (w : Str) (x12 x13 : Option D), w = wordAt stem lc o st plan i → Kn [some (.ref l), some (.int k), some (.str SG), some (.str stem), some (.str ⟨#[97 + lc]⟩), some (.int o), some (.int st), some (.int plan), none, none, some (.ref μ.length), some (.int (0 + (i : Int))), x12, x13]
        (List.set (M μ l c' ++ [Cell.lst (((List.range i).map (wordAt stem lc o st plan)).map D.str)]) μ.length (Cell.lst (((List.range i).map (wordAt stem lc o st plan)).map D.str ++ [D.str w]))) := fun w x12 x13 hw => by
      refine kn _ _ ⟨_, _, _, rfl, by omega, ?_⟩
      rw [List.set_append_right _ _ (by rw [M_len]; omega), M_len, Nat.sub_self, List.set_cons_zero, List.range_succ, List.map_append, List.map_append, hw]
      rfl
    have ap : ∀ d, cAppend (((List.range i).map (wordAt stem lc o st plan)).map D.str) [d] = some (.non, ((List.range i).map (wordAt stem lc o st plan)).map D.str ++ [d]) := fun d => by
      unfold cAppend
      dsimp only
      rw [if_pos (by simp only [List.length_map, List.length_range, sizeLine_eq]; omega)]
    have z0 : (Str.ofString "").length = 0 := by decide +kernel
    have i0 : ∀ a b : D, atI [a, b] 0 = some a := fun _ _ => rfl
    have i1 : ∀ a b : D, atI [a, b] 1 = some b := fun _ _ => rfl
    have di : decide ((0 + (i : Int)).fmod 2 = 1) = decide (i % 2 = 1) := by rw [im]; by_cases h : i % 2 = 1 <;> simp [h] <;> omega
    simp only [deq_int, di, pm, gx]
    have hs2 : stem.length + 8 ≤ sizeLine := by rw [sizeLine_eq]; omega
    have n1 : ∀ c : Nat, (⟨#[c]⟩ : Str).length = 1 := fun _ => rfl
    rcases (by omega : plan % 2 = 0 ∨ plan % 2 = 1) with h2 | h2 <;> by_cases h1 : 1 < plan <;> by_cases h3 : i % 2 = 1 <;>
      simp only [h1, h2, h3, decide_true, decide_false, cond_true, cond_false, if_true, if_false, i0, i1, ap, gx, Bool.false_eq_true, ld, lk]
    all_goals
      repeat (refine And.intro (by first | decide | exact deqOk_int _ _ _ | (simp only [len_app, n1, z0]; omega)) ?_)
      exact fin _ _ _ (by unfold wordAt; simp [h1, h2, h3])
  · rintro Γ μ' ⟨x11, x12, x13, rfl, hi, rfl⟩
    rw [irng_len]
    refine ⟨trivial, ?_⟩
    unfold t_names_11
    walk_at "dv"
    have hw := wds_signs (plan := plan) hk0 hk8 ha hs hlc ho hst (fun i => if 1 < plan ∧ i % 2 = 1 then Str.ofString "" else stem) (fun i => by split <;> simp)
    refine .inr ⟨M μ l c', _, rfl, M_upd, .inr (.inr (.inr (.inl ⟨0, _, by rw [M_len]; rfl, rfl, ?_, ?_⟩)))⟩
    · have aux : ∀ ws : List Str, D.puL (ws.map D.str) = true := fun ws => by
        induction ws with
        | nil => rfl
        | cons w ws ih => exact ih
      exact aux _
    · exact q c' _ hc1 (by omega) hw
theorem comp_rng {v : Nat} {te : DTE} {Γ : Gam} {μ : Mu} {Q : List D → Mu → Prop} {n : Nat} (g : Nat → D) (hn : n ≤ sizeLine) (h : ∀ i, i < n → ∀ K1 : D → Mu → Prop, K1 (g i) μ → te (Γ.set v (some (.int (0 + (i : Int))))) μ K1 (fun _ _ => False)) (q : Q ((List.range n).map g) μ) :
    dCompL none (cName v) dYes te Γ (irng 0 n) [] μ Q := by
  refine comp_inv (fun i acc μ' => acc = (List.range i).map g ∧ μ' = μ) ⟨rfl, rfl⟩ (by rw [irng_len]; exact hn) ?_ ?_
  · rintro i d acc μ' hd ⟨rfl, rfl⟩
    obtain ⟨hi, rfl⟩ := irng_get hd
    refine ⟨trivial, fun K1 K2 k1 k2 => h i hi K1 (k1 _ _ ⟨?_, rfl⟩)⟩
    rw [List.range_succ, List.map_append]; rfl
  · rintro acc μ' ⟨rfl, rfl⟩
    rw [irng_len]
    exact ⟨trivial, q⟩
theorem wds_pre {k : Int} {z : Str} {lc : Nat} {r : List Nat} (hk0 : 0 ≤ k) (hk : k ≤ 6) (ha : aln z) (hz : z.length = 6) (e : z.cps.toList = (97 + lc) :: r) (hl : lc < 26) : Wds k.toNat ((List.range k.toNat).map fun i : Nat => cutS z none (some (0 + (i : Int) + 1))) := by
  have el : ∀ i : Nat, (cutS z none (some (0 + (i : Int) + 1))).cps.toList = z.cps.toList.take (i + 1) := fun i => by
    have := cut_to z.cps.toList (k := 0 + (i : Int) + 1) (by omega)
    unfold cutL at this
    rw [← len_list] at this
    unfold cutS
    dsimp only
    rw [List.toList_toArray, this]
    congr 1
    omega
  have hz2 : z.cps.toList.length = 6 := by rw [← len_list]; exact hz
  refine wds_map (fun i hi => ?_) fun i j hi hj eq => ?_
  · refine valid_of (c := 97 + lc) (r := r.take i) (fun c hc => ?_) ?_ (low_let lc hl).1 ?_
    · rw [el i] at hc
      exact ha c (List.mem_of_mem_take hc)
    · rw [el i, e]; rfl
    · rw [len_list, el i, List.length_take]; omega
  · have e2 := congrArg (fun z : Str => z.cps.toList.length) eq
    simp only [el, List.length_take] at e2
    omega
theorem names_8 {μ : Mu} {l c c' lc : Nat} {k o st plan : Int} {stem : Str} {Q : D → Mu → Prop} {E : Exn → Mu → Prop} (hl : l < μ.length) (hk0 : 0 ≤ k) (hk8 : k ≤ 8) (hc1 : c' ≤ c) (hc2 : c ≤ c' + 9) (hc3 : 11 ≤ c') (ha : aln stem) (hs : stem.length ≤ 4) (hlc : lc < 26) (ho : 0 ≤ o ∧ o < 26)
    (hst : st = 1 ∨ st = 3 ∨ st = 5 ∨ st = 7 ∨ st = 9 ∨ st = 11) (hp : 0 ≤ plan ∧ plan < 7) (h7 : ¬ (plan = 5 ∧ 6 < k)) (q : ∀ c' ws, c' ≤ c → c ≤ c' + 20 → Wds k.toNat ws → Q (.lst (ws.map .str)) (μ.set l (.orc (c', true)))) :
    t_names_8 (dFn μ Q E) [some (.ref l), some (.int k), some (.str SG), some (.str stem), some (.str ⟨#[97 + lc]⟩), some (.int o), some (.int st), some (.int plan), none, none, none, none, none, none] (M μ l c') := by
  unfold t_names_8
  walk_at "dv"
  simp only [deq_int]
  refine ⟨deqOk_int _ _ _, ?_⟩
  by_cases h5 : plan = 5
  · simp only [h5, decide_true, cond_true]
    refine ⟨⟨_, rfl⟩, by decide, comp_sg hl (by decide) (by simp; omega) rfl rfl fun ts h1 h2 => ?_⟩
    rw [strD_map]
    have o1 : ∀ t ∈ ts, t.length = 1 := fun t ht => (h2 t ht).2
    have ht5 : ts.length = 5 := h1
    have hjl : (Txt.join (Str.ofString "") ts).length = 5 := by rw [len_join o1, ht5]
    have hja : aln (Txt.join (Str.ofString "") ts) := aln_join fun t ht => (h2 t ht).1
    refine ⟨by rw [sum_ones o1, ht5]; decide +kernel, by rw [hjl, sizeLine_eq]; show 1 + 5 ≤ _; decide, by omega, ?_⟩
    generalize Txt.join (Str.ofString "") ts = z at hjl hja ⊢
    refine comp_rng (fun i : Nat => D.str (cutS ((⟨#[97 + lc]⟩ : Str) ++ z) none (some (0 + (i : Int) + 1)))) (by rw [sizeLine_eq]; omega) (fun i hi K1 k1 => ?_) ?_
    · walk_at "dv"
      exact ⟨by rw [len_app, hjl, sizeLine_eq]; show 1 + 5 ≤ _; decide, k1⟩
    · have hw := wds_pre (k := k) (z := (⟨#[97 + lc]⟩ : Str) ++ z) (lc := lc) (r := z.cps.toList) hk0 (by omega) (aln_app2 (aln_one (low_let lc hlc).2 (by omega)) hja) (by rw [len_app, hjl]; rfl) (len_pre _ _) hlc
      have := names_end (μ := μ) (l := l) (c' := c' - Int.toNat 5) (Q := Q) (c := c) (k := k) (by simp; omega) (by simp; omega) hw q
      rw [List.map_map] at this
      exact this
  · simp only [h5, decide_false, cond_false]
    exact names_9 hl hk0 hk8 hc1 hc2 ha hs hlc ho hst hp q
theorem names_7 {μ : Mu} {l c c' lc : Nat} {k o st plan : Int} {stem : Str} {Q : D → Mu → Prop} {E : Exn → Mu → Prop} (hl : l < μ.length) (hk0 : 0 ≤ k) (hk8 : k ≤ 8) (hc1 : c' ≤ c) (hc2 : c ≤ c' + 9) (hc3 : 11 ≤ c') (ha : aln stem) (hs : stem.length ≤ 4) (hlc : lc < 26) (ho : 0 ≤ o ∧ o < 26)
    (hst : st = 1 ∨ st = 3 ∨ st = 5 ∨ st = 7 ∨ st = 9 ∨ st = 11) (hp : 0 ≤ plan ∧ plan < 7) (q : ∀ c' ws, c' ≤ c → c ≤ c' + 20 → Wds k.toNat ws → Q (.lst (ws.map .str)) (μ.set l (.orc (c', true)))) :
    t_names_7 (dFn μ Q E) [some (.ref l), some (.int k), some (.str SG), some (.str stem), some (.str ⟨#[97 + lc]⟩), some (.int o), some (.int st), some (.int plan), none, none, none, none, none, none] (M μ l c') := by
  unfold t_names_7
  walk_at "dv"
  simp only [deq_int]
  refine ⟨deqOk_int _ _ _, ?_⟩
  have tac : ∀ (j : Int), 0 ≤ j → j < 9 → dCompL none (cName 11) dYes (dBin gAdd (dVar 4) (dCall gStr (dCons (dBin gMul (dVar 8) (dBin gAdd (dVar 11) (dC (D.int 1)))) dNil)))
      [some (D.ref l), some (D.int k), some (D.str SG), some (D.str stem), some (D.str { cps := #[97 + lc] }), some (D.int o), some (D.int st), some (D.int plan), some (D.int (1 + j)), none, none, none, none, none] (irng 0 k.toNat) [] (M μ l (c' - 1)) fun acc μ2 => (dFn μ Q E).rt (D.lst acc) μ2 := fun j j0 j1 => by
    refine comp_rng (fun i : Nat => D.str ((⟨#[97 + lc]⟩ : Str) ++ Str.ofString (toString ((1 + j) * ((i : Int) + 1))))) (by rw [sizeLine_eq]; omega) (fun i hi K1 k1 => ?_) ?_
    · walk_at "dv"
      have hb : 0 ≤ (1 + j) * ((i : Int) + 1) ∧ (1 + j) * ((i : Int) + 1) < 100 := by
        have : j = 0 ∨ j = 1 ∨ j = 2 ∨ j = 3 ∨ j = 4 ∨ j = 5 ∨ j = 6 ∨ j = 7 ∨ j = 8 := by omega
        rcases this with rfl | rfl | rfl | rfl | rfl | rfl | rfl | rfl | rfl <;> omega
      have hd := dig_str ((1 + j) * ((i : Int) + 1)).toNat (by omega)
      rw [show ((((1 + j) * ((i : Int) + 1)).toNat : Nat) : Int) = (1 + j) * ((i : Int) + 1) from by omega] at hd
      rw [Int.zero_add]
      refine ⟨.inl (by omega), Nat.lt_of_lt_of_le (PySem.Flt.log2_lt_of (k := 7) (by decide) (by omega)) (by decide), ?_, k1⟩
      rw [len_list (Str.ofString _), hd, sizeLine_eq]
      have := digs_len ((1 + j) * ((i : Int) + 1)).toNat
      show 1 + _ ≤ _
      omega
    · have hw := wds_nums (k := k) (lc := lc) (st := 1 + j) hk0 hk8 hlc (by omega) (by omega)
      have := names_end (μ := μ) (l := l) (c' := c' - 1) (Q := Q) (c := c) (k := k) (by omega) (by omega) hw q
      rw [List.map_map] at this
      exact this
  by_cases h4 : plan = 4
  · simp only [h4, decide_true, cond_true]
    subst h4
    exact draw_M hl (by omega) (by decide) (by decide) fun j j0 j1 => ⟨by omega, tac j j0 j1⟩
  · simp only [h4, decide_false, cond_false]
    refine ⟨deqOk_int _ _ _, ?_⟩
    by_cases h5 : plan = 5
    · by_cases h6 : 6 < k
      · simp only [h5, h6, decide_true, cond_true]
        subst h5
        exact draw_M hl (by omega) (by decide) (by decide) fun j j0 j1 => ⟨by omega, tac j j0 j1⟩
      · simp only [h5, h6, decide_true, decide_false, cond_true, cond_false]
        subst h5
        exact names_8 hl hk0 hk8 hc1 hc2 hc3 ha hs hlc ho hst hp (fun z => h6 z.2) q
    · simp only [h5, decide_false, cond_false]
      exact names_8 hl hk0 hk8 hc1 hc2 hc3 ha hs hlc ho hst hp (fun z => h5 z.1) q
theorem names_6 {μ : Mu} {l c c' lc : Nat} {k o st plan : Int} {stem : Str} {Q : D → Mu → Prop} {E : Exn → Mu → Prop} (hl : l < μ.length) (hk0 : 0 ≤ k) (hk8 : k ≤ 8) (hc1 : c' ≤ c) (hc2 : c ≤ c' + 9) (hc3 : 11 ≤ c') (ha : aln stem) (hs : stem.length ≤ 4) (hlc : lc < 26) (ho : 0 ≤ o ∧ o < 26)
    (hst : st = 1 ∨ st = 3 ∨ st = 5 ∨ st = 7 ∨ st = 9 ∨ st = 11) (hp : 0 ≤ plan ∧ plan < 7) (q : ∀ c' ws, c' ≤ c → c ≤ c' + 20 → Wds k.toNat ws → Q (.lst (ws.map .str)) (μ.set l (.orc (c', true)))) :
    t_names_6 (dFn μ Q E) [some (.ref l), some (.int k), some (.str SG), some (.str stem), some (.str ⟨#[97 + lc]⟩), some (.int o), some (.int st), some (.int plan), none, none, none, none, none, none] (M μ l c') := by
  unfold t_names_6
  walk_at "dv"
  simp only [deq_int]
  refine ⟨deqOk_int _ _ _, ?_⟩
  by_cases h6 : plan = 6 ∧ k < 7
  · simp only [h6.1, h6.2, decide_true, cond_true]
    refine ⟨by decide, ?_⟩
    simp only [cut_to _ hk0]
    have e : List.take k.toNat [D.str (Str.ofString "rows"), D.str (Str.ofString "leaf"), D.str (Str.ofString "x"), D.str (Str.ofString "x1"), D.str (Str.ofString "x10"), D.str (Str.ofString "none")] = ((["rows", "leaf", "x", "x1", "x10", "none"] : List Str).take k.toNat).map D.str := by rw [List.map_take]; rfl
    rw [e]
    refine names_end hc1 (by omega) ⟨?_, nodupC.nd.sublist (List.take_sublist _ _), fun w hw => nodupC.ok w (List.mem_of_mem_take hw)⟩ q
    rw [List.length_take]
    simp
    omega
  · have t7 := names_7 (E := E) hl hk0 hk8 hc1 hc2 hc3 ha hs hlc ho hst hp q
    by_cases h7 : plan = 6
    · have h8 : ¬ k < 7 := fun z => h6 ⟨h7, z⟩
      simp only [h7, h8, decide_true, decide_false, cond_true, cond_false]
      subst h7
      exact t7
    · simp only [h7, decide_false, cond_false]
      exact t7
theorem rd_names {n1 n2 n3 n4 n5 n6 n7 n8 n9 n10 n11 n12 n13 n14 : Str} : ∀ ds μ Q E, S_names ds μ Q E → t_names (dFn μ Q E) (start0 [n1, n2, n3, n4, n5, n6, n7, n8, n9, n10, n11, n12, n13, n14] ds) μ := by
  rintro ds μ Q E ⟨l, c, k, rfl, hc, hc2, hk0, hk8, q⟩
  have hl := orc_lt hc
  rw [show t_names (dFn μ Q E) = t_names (dFn μ Q E) from rfl]
  have e0 : t_names (dFn μ Q E) (start0 [n1, n2, n3, n4, n5, n6, n7, n8, n9, n10, n11, n12, n13, n14] [.ref l, .int k]) (M μ l c) → t_names (dFn μ Q E) (start0 [n1, n2, n3, n4, n5, n6, n7, n8, n9, n10, n11, n12, n13, n14] [.ref l, .int k]) μ := fun h => by rw [M_id hc] at h; exact h
  refine e0 ?_
  unfold t_names
  walk_at "dv"
  unfold t_names_1
  walk_at "dv"
  refine ⟨⟨_, rfl⟩, draw_M hl (by omega) (by decide) (by decide) fun j j0 j1 => ?_⟩
  dsimp only
  refine ⟨by omega, comp_sg hl (by omega) (by omega) rfl rfl fun ts h1 h2 => ?_⟩
  simp only [lk, strD_map]
  have o1 : ∀ t ∈ ts, t.length = 1 := fun t ht => (h2 t ht).2
  refine ⟨by rw [sum_ones o1, show (Str.ofString "").length = 0 from by decide +kernel]; omega, ?_⟩
  have hst : aln (Txt.join (Str.ofString "") ts) := aln_join fun t ht => (h2 t ht).1
  have hsl : (Txt.join (Str.ofString "") ts).length ≤ 4 := by rw [len_join o1]; omega
  generalize Txt.join (Str.ofString "") ts = stem at hst hsl ⊢
  unfold t_names_2
  walk_at "dv"
  refine draw_M hl (by omega) (by decide) (by decide) fun i i0 i1 => ?_
  rw [show (Str.ofString "abcdefghijklmnopqrstuvwxyz0123456789") = SG from rfl]
  dsimp only
  rw [sg_let i0 i1]
  refine ⟨by rw [sg_len, sizeLine_eq]; omega, ?_⟩
  unfold t_names_3
  walk_at "dv"
  refine draw_M hl (by omega) (by decide) (by decide) fun o o0 o1 => ?_
  unfold t_names_4
  walk_at "dv"
  refine ⟨by rw [sizeLine_eq]; omega, draw_M hl (by omega) (by decide) (by decide) fun u u0 u1 => ?_⟩
  obtain ⟨st, e1, e2⟩ := menu6 u0 u1
  dsimp only
  simp only [e1]
  unfold t_names_5
  walk_at "dv"
  refine draw_M hl (by omega) (by decide) (by decide) fun pl p0 p1 => ?_
  exact names_6 (lc := i.toNat) hl hk0 hk8 (by omega) (by omega) (by omega) hst hsl (by omega) ⟨o0, o1⟩ e2 ⟨p0, p1⟩ q
end DV
/-! Sets of outcomes: all_sets, is_set, others; the law's own. -/
namespace DV
open PySem PySem.Spec PyProof.Rows L2
abbrev tupS (l : List Str) : D := .tup (l.map .str)
def subs (xs : List Str) : List (List Str) := xs.foldl (fun f x => f ++ f.map (· ++ [x])) [[]]
def key_set_rank (d : D) : D := match d with
  | .tup l => .tup [.int l.length, .tup l]
  | _ => d
def setsD (xs : List Str) : List D := sortBy key_set_rank ((subs xs).map tupS)
def sortS (xs : List Str) : List Str := xs.mergeSort fun a b => leBy id (.str a) (.str b)
theorem sortS_perm (xs : List Str) : (sortS xs).Perm xs := List.mergeSort_perm _ _
/-! all_sets -/
theorem inF_strs (x : Str) (us : List Str) : inF (.str x) (us.map .str) = decide (x ∈ us) := by
  unfold inF
  induction us with
  | nil => simp
  | cons u us ih =>
    rw [List.map_cons, List.any_cons, ih]
    show ((u == x) || _) = _
    by_cases h : x = u
    · subst h; simp
    · have : (u == x) = false := by simp [Ne.symm h]
      rw [this]; simp [h]
theorem flat_strs' (us : List Str) : (us.map D.str).all D.flat = true := by
  rw [List.all_map, List.all_eq_true]; intro x _; rfl
end DV
/-! Sets of texts whose table can be walked: new, add, sorted. -/
namespace DV
open PySem PySem.Spec PyProof.Rows L2 PySem.Froz
def SetT (P : Program) (w : World) (h : Heap) (a : Addr) (l : List Str) : Prop :=
  ∃ Dd : SD, h.get? a = some (sObj "set" Dd) ∧ TxOk P w Dd l ∧ l.Nodup ∧ l.length < scanBound ∧ Ris Dd.2.2.place.toList ∧ (w.params.followText "set-order" = true ∨ Dd.2.2.led = true)
section
variable {P : Program} {w : World} {A : Around} {E : Value → Shared → Prop} {s : Shared} {a : Addr} {l : List Str}
theorem SetT.keep {h h' : Heap} (r : SetT P w h a l) (k : ∀ o, h.get? a = some o → h'.get? a = some o) : SetT P w h' a l := by
  obtain ⟨Dd, h1, h2⟩ := r
  exact ⟨Dd, k _ h1, h2⟩
theorem tail_ris {ep : Nat} {es : Array (Int × Value)} {t : SetTable} {b : Bool} (h : Ris t.place.toList) : Ris (tailTx ep es t b).2.2.place.toList := by
  unfold tailTx
  split
  · exact relayAll_ris _ _ _
  · exact h
theorem tail_led {ep : Nat} {es : Array (Int × Value)} {t : SetTable} {b : Bool} : (tailTx ep es t b).2.2.led = t.led := by
  unfold tailTx
  split
  · exact relayAll_led _ _ _
  · rfl
theorem add_found {k : Str} {u : Tok} {Dd : SD} {Q : Bool → Shared → Prop} (ho : s.heap.get? a = some (sObj "set" Dd)) (T : TxOk P w Dd l) (hk : k ∈ l) (hb : l.length < scanBound) (h : Q false s) : wpAny (model P w) A (setAddHashed a (.str k u) (hashStr w k)) Q E s := by
  obtain ⟨es, ep, t⟩ := Dd
  have hsz : es.size = l.length := T.sz
  obtain ⟨e, he, hq⟩ := (T.mem k).mp hk
  unfold setAddHashed setAddHashedIn
  refine wpAny_holding (wpAny_bind (wpAny_setState_of ho (show (sObj "set" (es, ep, t)).data = .set es ep t from rfl) T.fit ?_))
  dsimp only
  rw [byScan_of rfl (by rw [hsz]; exact hb) T.el]
  simp only [↓reduceIte]
  unfold setAddByScan
  refine wpAny_bind (wpAny_bind (wpAny_rule (wpAny_bind (wpAny_setScan_of (knd := strKind P w) (k := k) (is_str k u) ho (show (sObj "set" (es, ep, t)).data = .set es ep t from rfl) T.fit T.el ?_))))
  cases hf : List.findIdx? (fun e => (strKind P w).is k e.2) es.toList with
  | none => exact absurd hq (by rw [List.findIdx?_eq_none_iff.mp hf e he]; simp)
  | some j => exact wpAny_pure (wpAny_pure h)
theorem setT_add {k : Str} {u : Tok} {Q : Value → Shared → Prop} (r : SetT P w s.heap a l) (room : l.length + 1 < scanBound)
    (hQ : ∀ h', Heap.SameBut a s.heap h' → SetT P w h' a (if k ∈ l then l else k :: l) → Q .none { s with heap := h', toks := s.toks + 1 }) : wpAny (model P w) A (call (.builtin "set.add") [.ref a, .str k u]) Q E s := by
  obtain ⟨Dd, h1, T, nd, hb, hr, hl⟩ := r
  have hT : s.TypeIs (.ref a) "set" := ⟨_, h1, rfl⟩
  refine wpAny_call_entry PySem.F.slot_set_add hT PySem.F.entry_set_add ?_ (PySem.F.args_set_add_2 _ _)
  unfold Builtin.«set.add» Builtin.Frozenset.oneOther
  simp only [List.isEmpty_nil, bind_assoc]
  unfold Builtin.Frozenset.addrOf setAdd
  refine wpAny_bind (wpAny_pure ?_)
  try dsimp only
  refine wpAny_bind (wpAny_pure ?_)
  try dsimp only
  refine wpAny_bind (wpAny_holding (wpAny_bind ((strKind P w).pyHash (is_str k u) ?_)))
  by_cases hk : k ∈ l
  · refine add_found (s := { s with toks := s.toks + 1 }) h1 T hk hb ?_
    show wpAny _ _ (ret Value.none) _ _ _
    refine wpAny_pure ⟨_, rfl, hQ s.heap (Heap.SameBut.refl a s.heap) ?_⟩
    rw [if_pos hk]
    exact ⟨Dd, h1, T, nd, hb, hr, hl⟩
  · refine add_x (s := { s with toks := s.toks + 1 }) h1 T hk room ?_
    show wpAny _ _ (ret Value.none) _ _ _
    refine wpAny_pure ⟨_, rfl, hQ _ (Heap.SameBut.update s.heap a _) ?_⟩
    rw [if_neg hk]
    refine ⟨addTx (hashStr w k) (.str k u) Dd, get_upd _ h1 rfl, add_ok u T, List.nodup_cons.mpr ⟨hk, nd⟩, room, ?_, ?_⟩
    · unfold addTx
      refine tail_ris ?_
      split
      · exact layNew_ris _ _ _ _ hr
      · exact layNew_ris _ _ _ _ hr
    · refine hl.imp id fun z => ?_
      unfold addTx
      rw [tail_led]
      split
      · exact (layNew_led _ _ _ _).trans z
      · exact (layNew_led _ _ _ _).trans z
theorem setT_fresh {h : Heap} : SetT P w (h.push { cls := .type "set", dict := none, data := .set #[] 0 (.fresh 0 0 (!w.params.followText "set-order")) }) h.objs.size [] :=
  ⟨(#[], 0, .fresh 0 0 (!w.params.followText "set-order")), Heap.get?_push_size _ rfl, TxOk.nil rfl, by simp, by decide, List.Pairwise.nil, by
    show _ ∨ (!w.params.followText "set-order") = true
    cases w.params.followText "set-order" <;> simp⟩
end
/-! ### sorted -/
theorem perm_of_sub {α : Type} [DecidableEq α] : ∀ {l m : List α}, l.Nodup → l ⊆ m → m.length = l.length → m.Perm l
  | [], m, _, _, hl => by rw [List.length_eq_zero_iff.mp hl]
  | x :: l, m, nd, hs, hl => by
    have n := List.nodup_cons.mp nd
    have hx : x ∈ m := hs (by simp)
    have hp := List.perm_cons_erase hx
    have ih := perm_of_sub (l := l) (m := m.erase x) n.2 (fun y hy => by
      have h1 : y ∈ m := hs (by simp [hy])
      have hne : y ≠ x := fun z => n.1 (z ▸ hy)
      exact (List.mem_erase_of_ne hne).mpr h1) (by rw [List.length_erase_of_mem hx, hl]; simp)
    exact hp.trans (ih.cons x)
theorem nodup_of_sub {α : Type} [DecidableEq α] {l m : List α} (nd : l.Nodup) (hs : l ⊆ m) (hl : m.length = l.length) : m.Nodup := (perm_of_sub nd hs hl).nodup_iff.mpr nd
def txtOf (v : Value) : Str := match v with | .str x _ => x | _ => Str.empty
theorem le_strs (a b : Str) : leBy id (.str a) (.str b) = decide (a.cps.toList ≤ b.cps.toList) := congrFun (congrFun (PySem.W.dataLe_str (fun d : Str => d)) a) b
theorem same_rank {a c : Str} : PySem.W.sameRank (fun a b => leBy id (.str a) (.str b)) c a = (a == c) := by
  unfold PySem.W.sameRank
  dsimp only
  rw [le_strs, le_strs]
  by_cases h : a = c
  · subst h; simp [List.le_refl]
  · have : (a == c) = false := by simp [h]
    rw [this]
    cases e1 : decide (c.cps.toList ≤ a.cps.toList) with
    | false => rfl
    | true =>
      cases e2 : decide (a.cps.toList ≤ c.cps.toList) with
      | false => rfl
      | true => exact absurd (str_ext (List.le_antisymm (of_decide_eq_true e2) (of_decide_eq_true e1))) h
theorem le_total : PySem.W.TotalLe fun a b : Str => leBy id (.str a) (.str b) where
  trans := fun a b c h1 h2 => by
    rw [le_strs] at *
    exact decide_eq_true (List.le_trans (of_decide_eq_true h1) (of_decide_eq_true h2))
  total := fun a b => by
    rw [le_strs, le_strs]
    rcases List.le_total a.cps.toList b.cps.toList with h | h
    · exact .inl (decide_eq_true h)
    · exact .inr (decide_eq_true h)
theorem sortS_eq {xs ys : List Str} (p : xs.Perm ys) : sortS xs = sortS ys := by
  refine PySem.W.sort_unique le_total (PySem.W.sort_pairwise le_total xs) fun c => ?_
  have e : PySem.W.sameRank (fun a b : Str => leBy id (.str a) (.str b)) c = fun a => a == c := funext fun a => same_rank
  rw [e, List.filter_beq, List.filter_beq, ((sortS_perm xs).trans p).count_eq]
section
variable {P : Program} {w : World} {A : Around} {E : Value → Shared → Prop} {s : Shared} {a : Addr} {l : List Str}
theorem sorted_T {Q : Value → Shared → Prop} (r : SetT P w s.heap a l) (hh : A.handled = none) (hu : A.units + 64 < cLine)
    (hQ : ∀ s' p (out : List Value) (c : Nat), (∀ b o, s.heap.get? b = some o → s'.heap.get? b = some o) → s'.gens = s.gens → s'.os = s.os → s.heap.objs.size ≤ p → s'.heap.get? p = some (seqObj "list" out.toArray c) → Vals ((sortS l).map V.str) out → Q (.ref p) s') :
    wpAny (model P w) A (call (.builtin "sorted") [.ref a]) Q E s := by
  obtain ⟨⟨es, ep, t⟩, h1, T, nd, hb, hr, hl⟩ := r
  have hsz : es.size = l.length := T.sz
  refine Calls.call_function_entry kind_sorted plain_sorted entry_sorted (args_sorted1 _) ?_
  unfold Builtin.«sorted»
  refine wpAny_bind (m := checkCount "sorted" 1 1 _) (wpAny_pure (wpAny_bind (collect_set (A := A.in1) hh ⟨_, h1, rfl, rfl⟩ T.fit (by rw [hsz]; exact hb) hr hl fun s1 vs k1 hz g1 o1 pm => ?_)))
  have hvl : vs.length = l.length := by rw [pm.length_eq, List.length_map, Array.length_toList]; exact hsz
  have hL : vs.length ≤ sizeLine := by rw [hvl]; exact fits_of_scanBound hb
  have isS : ∀ v ∈ vs, ∃ t, v = .str (txtOf v) t := fun v hv => by
    obtain ⟨e, he, q⟩ := List.mem_map.mp (pm.mem_iff.mp hv)
    obtain ⟨⟨k, hk, _⟩, _⟩ := T.el e he
    obtain ⟨t, ht⟩ := Value.isStrOf_shape hk
    rw [← q, ht]
    exact ⟨t, rfl⟩
  have each : ∀ ws : List Value, (∀ v ∈ ws, ∃ t, v = .str (txtOf v) t) → PySem.W.EachIs (fun v x => ∃ t, v = Value.str x t) ws (ws.map txtOf) := fun ws => by
    induction ws with
    | nil => intro _; exact .nil
    | cons v ws ih => intro h; exact .cons (h v (by simp)) (ih fun u hu => h u (by simp [hu]))
  have ev := each vs isS
  have px : (vs.map txtOf).Perm l := by
    have h2 := pm.map txtOf
    rw [List.map_map] at h2
    have hn2 : ((es.toList.map (txtOf ∘ (·.2)))).Perm l := by
      refine (List.perm_ext_iff_of_nodup ?_ nd).mpr fun k => ?_
      · have hc : (es.toList.map (txtOf ∘ (·.2))).length = l.length := by rw [List.length_map, Array.length_toList]; exact hsz
        have hsub : l ⊆ es.toList.map (txtOf ∘ (·.2)) := fun k hk => by
          obtain ⟨e, he, q⟩ := (T.mem k).mp hk
          obtain ⟨t, ht⟩ := Value.isStrOf_shape q
          exact List.mem_map.mpr ⟨e, he, by show txtOf e.2 = k; rw [ht]; rfl⟩
        exact nodup_of_sub nd hsub hc
      · constructor
        · intro hk
          obtain ⟨e, he, q⟩ := List.mem_map.mp hk
          obtain ⟨⟨k', hk', _⟩, _⟩ := T.el e he
          obtain ⟨t, ht⟩ := Value.isStrOf_shape hk'
          have : k' = k := by rw [← q]; show k' = txtOf e.2; rw [ht]; rfl
          subst this
          exact (T.mem k').mpr ⟨e, he, hk'⟩
        · intro hk
          obtain ⟨e, he, q⟩ := (T.mem k).mp hk
          obtain ⟨t, ht⟩ := Value.isStrOf_shape q
          exact List.mem_map.mpr ⟨e, he, by show txtOf e.2 = k; rw [ht]; rfl⟩
    exact h2.trans hn2
  refine wpAny_bind (wpAny_newList ?_ hL)
  have hoL : (s1.heap.push (seqObj "list" vs.toArray 0)).get? s1.heap.objs.size = some (seqObj "list" vs.toArray 0) := Heap.get?_push_size _ rfl
  have er : ∀ h : Heap, PySem.W.EachIs (fun v x => ∃ as, Reads h v (PyData.str x) as) vs (vs.map txtOf) := fun h => ev.mono fun v x ⟨t, e⟩ => ⟨[], by rw [e]; exact .str _ _⟩
  have hal : PySem.W.AllAlike ((vs.map txtOf).map PyData.str) := PySem.W.AllAlike.of fun _ _ => rfl
  have hsk : PySem.W.Sortable ((vs.map txtOf).map PyData.str) := PySem.W.Sortable.others fun b => ⟨(by intro z; cases z), (by intro w z; cases z)⟩
  refine wpAny_bind (wpAny_holding (wpAny_call_entry slot_list_sort ⟨_, hoL, rfl⟩ entry_list_sort (PySem.W.list_sort_vals (κ := PySem.W.dataKind (PySem.W.sortingHeap (s1.heap.push (seqObj "list" vs.toArray 0)) s1.heap.objs.size vs) ((vs.map txtOf).map PyData.str)) hoL
    (PySem.W.SortsAt.data (PySem.W.each_map (R := fun v d => ∃ as, Reads _ v d as) PyData.str (er _)) hal hsk (fun d hd => ?_)) hL ⟨_, rfl, ?_⟩) (args_list_sort _)))
  · obtain ⟨x, _, rfl⟩ := List.mem_map.mp hd
    show A.in1.in1.units + 0 < cLine
    show A.units + 1 + 1 + 0 < cLine
    omega
  · have so := PySem.W.sortVals_data (h' := PySem.W.sortingHeap (s1.heap.push (seqObj "list" vs.toArray 0)) s1.heap.objs.size vs) false ev (er _) hal
    obtain ⟨c, hc⟩ := sortedHeap_at (vs := vs) (out := (PySem.W.sortVals (PySem.W.dataKind (PySem.W.sortingHeap (s1.heap.push (seqObj "list" vs.toArray 0)) s1.heap.objs.size vs) ((vs.map txtOf).map PyData.str)) false vs vs).toArray) hoL
    refine wpAny_pure ⟨_, rfl, hQ _ s1.heap.objs.size _ c (fun b u e => ?_) g1 o1 hz hc ?_⟩
    · have q := k1 b u e
      have hlt := Heap.lt_size q
      rw [sortedHeap_old (Nat.ne_of_lt hlt) (by rw [size_push']; exact Nat.lt_succ_of_lt hlt)]
      exact Heap.get?_push_of_some _ q
    · have e2 : (vs.map txtOf).mergeSort (PySem.W.dataLe false PyData.str) = sortS l := (show _ = sortS (vs.map txtOf) from rfl).trans (sortS_eq px)
      rw [e2] at so
      exact vals_each (so.mono fun v x ⟨t, e⟩ => ⟨t, e⟩)
end
end DV
/-! More rules: lists made by * as cells, insert, max of two, pairs as targets, dicts by keys. -/
namespace DV
open PySem PySem.Spec PyProof.Rows L2
section
variable {X : Cx} {W : WX} {a b o e e2 tg : Expr} {pos p apos : Pos} {fa fb fc : DTE}
def gMulM : G2 := fun x y μ Q => match lk μ x, lk μ y with
  | .lst i, .int k => (-(2 ^ 63) ≤ k ∧ k < 2 ^ 63 ∧ i.length * k.toNat ≤ sizeLine) ∧ Q (.ref μ.length) (μ ++ [.lst (List.replicate k.toNat i).flatten])
  | _, _ => False
def gMax2 : GN := fun ds μ Q => match ds with
  | [.int i, .int j] => Q (.int (if j > i then j else i)) μ
  | _ => False
/-! ### a pair as a target -/
def dPair (i j : Nat) : DTG := fun d Γ μ Q _ => match d with
  | .tup [x, y] => Q ((Γ.set i (some x)).set j (some y)) μ
  | _ => False
/-! ### dicts by keys -/
def valD (kvs : List (Key × D)) (k : Key) : Option D := (kvs.find? fun kv => decide (kv.1 = k)).map (·.2)
theorem valD_pos {p : Key × D} {r : List (Key × D)} {k : Key} (e : p.1 = k) : valD (p :: r) k = some p.2 := by simp [valD, List.find?_cons, e]
theorem valD_neg {p : Key × D} {r : List (Key × D)} {k : Key} (e : ¬ p.1 = k) : valD (p :: r) k = valD r k := by simp [valD, List.find?_cons, e]
theorem repk_val {K : PySem.W.Frag} {Hb : Hp} {al : List Addr} : ∀ {kvs : List (Key × D)} {us : List (Key × V)} {k : Key}, RepK K Hb al us kvs → (∀ d, valD kvs k = some d → ∃ v, valV us k = some v ∧ Rep K Hb al v d) ∧ (valD kvs k = none → valV us k = none) := fun {kvs us k} h => by
  obtain ⟨h1, h2⟩ := h
  induction kvs generalizing us with
  | nil =>
    cases us with
    | nil => exact ⟨fun d e => (by cases e), fun _ => rfl⟩
    | cons u us => simp at h1
  | cons c kvs ih =>
    cases us with
    | nil => simp at h1
    | cons u us =>
      obtain ⟨kc, dc⟩ := c
      obtain ⟨ku, vu⟩ := u
      simp only [List.map_cons, List.cons.injEq] at h1
      obtain ⟨rfl, h1⟩ := h1
      cases h2 with
      | cons r1 r2 =>
        obtain ⟨i1, i2⟩ := ih h1 r2
        by_cases e : kc = k
        · rw [valD_pos e, valV_pos e]
          exact ⟨fun d z => ⟨vu, rfl, (by cases z; exact r1)⟩, fun z => (by cases z)⟩
        · rw [valD_neg e, valV_neg e]
          exact ⟨i1, i2⟩
def gDGet : G2 := fun x y μ Q => match lk μ x, keyOfD y with
  | .dct kvs, some k => (match valD kvs k with | some d => Q d μ | none => False)
  | _, _ => False
theorem key_rep {K : PySem.W.Frag} {Hb : Hp} {al : List Addr} {y : V} {dy : D} {k : Key} (r : Rep K Hb al y dy) (h : keyOfD dy = some k) : y = kV k := by
  cases r <;> first | cases h | skip
  all_goals rfl
theorem de_dget (hu : X.A.units + 1 < cLine) (ha : DE X W a fa) (hb : DE X W b fb) (hs : NoSl b := by exact fun _ _ => rfl) : DE X W (.Subscript a b pos) (dBin gDGet fa fb) := PE.imp (pe_dget hu ha hb hs) fun σ H Q ⟨n, Γ, μ, Qd, Ed, hH, sr, gr, h, hq, hx⟩ => by
  subst hH
  refine lift_go sr gr h (fun n1 x dx μ1 s1 r1 p1 q1 => lift_go r1 (gr.step s1) q1 (fun n2 y dy μ2 s2 r2 p2 q2 => ?_) (hx.step s1)) hx
  unfold gDGet at q2
  split at q2
  · rename_i kvs k e1 e2
    obtain ⟨c, us, rfl, h1, h2, h3⟩ := see_dct r2 (s2.rep p1) e1
    have hk := key_rep p2 e2
    subst hk
    split at q2
    · rename_i d e3
      obtain ⟨v, g1, g2⟩ := (repk_val ⟨h2, h3⟩).1 d e3
      exact ⟨c, v, rfl, g1 ▸ .inl ⟨us, k, h1, rfl, rfl⟩, hq n2 v d μ2 (s1.trans s2) r2 g2 q2⟩
    · exact q2.elim
  · exact q2.elim
/-! d[k] = v -/
def dSetD (fo fi : DTE) : DTG := fun d Γ μ Q E => fo Γ μ (fun x μ1 => fi Γ μ1 (fun i μ2 => match x, keyOfD i with
  | .ref l, some k => (match μ2[l]? with
    | some (.dct kvs) => kvs.length < sizeLine ∧ Q Γ (μ2.set l (.dct (putKD kvs k d)))
    | _ => False)
  | _, _ => False) E) E
/-! {} -/
def dDict0 : DTE := fun _ μ Q _ => Q (.ref μ.length) (μ ++ [.dct []])
/-! truth -/
end
end DV
/-! Comprehensions with two for. -/
namespace DV
open PySem PySem.Spec PyProof.Rows L2
def dCompO (src : Option (Nat × List D)) (g : D → Gam → Mu → (Gam → Prop) → Prop) (fi1 : DTI) (g1 : D → Gam → Mu → (Gam → Prop) → Prop) (tt1 : DTT) (te : DTE) (vs1 : List Nat) (Γ : Gam) : List D → List D → Mu → (List D → Mu → Prop) → Prop
  | [], acc, μ, Q => Gd src μ ∧ Q acc μ
  | d :: ds, acc, μ, Q => Gd src μ ∧ g d Γ μ fun Γ1 => fi1 Γ1 μ (fun src1 ds1 μ1 => dCompL src1 g1 tt1 te (wipeG Γ1 vs1) ds1 acc μ1 fun acc2 μ2 => dCompO src g fi1 g1 tt1 te vs1 Γ ds acc2 μ2 Q) fun _ _ => False
def dComp2 (fz : Bool) (vs vs1 : List Nat) (fi : DTI) (g : D → Gam → Mu → (Gam → Prop) → Prop) (fi1 : DTI) (g1 : D → Gam → Mu → (Gam → Prop) → Prop) (tt1 : DTT) (te : DTE) : DTE := fun Γ μ Q E => fi Γ μ (fun src ds μ1 => dCompO src g fi1 g1 tt1 te vs1 (wipeG Γ vs) ds [] μ1 fun acc μ2 => dFin fz acc μ2 Q) E
theorem GR.sp {K : PySem.W.Frag} {n n' : Now} {Γ : Gam} {σ : L2.St} (g : GR K n Γ σ) (s : SP n n') : GR K n' Γ σ := ⟨g.len, fun i d h => let ⟨v, h1, h2⟩ := g.at_ i d h; ⟨v, h1, s.rep h2⟩⟩
theorem wipe_twice (σ : L2.St) (vs : List Nat) : L2.wipe (L2.wipe σ vs) vs = L2.wipe σ vs := wipe_eq (L2.wipe_length σ vs) (fun k hk => by rw [wipe_get, if_neg hk])
end DV
/-! {e for x in xs for y in ys} of texts, sorted. -/
namespace DV
open PySem PySem.Spec PyProof.Rows L2
def SetTO (P : Program) (w : World) (a : Addr) (l : List Str) : HO := .ext fun h => SetT P w h a l
def addS (l : List Str) (k : Str) : List Str := if k ∈ l then l else k :: l
section
variable {X : Cx} {pins : List (Addr × Obj)} {σ : L2.St} {H : Hp} {s : Shared}
theorem setTO_new {P : Program} {w : World} {H : Hp} {h : Heap} {a : Addr} {l : List Str} (r : SetT P w h a l) : ObjOk P w H h a (SetTO P w a l) := by
  have ⟨_, ho, _⟩ := r
  exact ⟨r, ⟨_, ho⟩, fun h1 h2 p k => SetT.keep p k⟩
theorem setTO_get {a : Addr} {l : List Str} (I : Inv X pins σ H s) (ha : H a = some (SetTO X.prog X.w a l)) : SetT X.prog X.w s.heap a l := (I.hok a _ ha).1
theorem addT_ok {E : Value → Shared → Prop} {Da : Addr} {l : List Str} {y : Str} {t : Tok} {Q : Value → Shared → Prop} (I : Inv X pins σ H s) (hD : H Da = some (SetTO X.prog X.w Da l)) (room : l.length + 1 < scanBound)
    (h : ∀ s', Inv X pins σ (upd H Da (SetTO X.prog X.w Da (addS l y))) s' → Q .none s') : wpAny (model X.prog X.w) X.A (call (.builtin "set.add") [.ref Da, .str y t]) Q E s := by
  refine setT_add (setTO_get I hD) room fun h' sb new => ?_
  have he : ∃ u, h'.get? Da = some u := by
    have ⟨_, ho, _⟩ := new
    exact ⟨_, ho⟩
  exact h _ (I.write (e := Da) (t' := s.toks + 1) (by rw [hD]; trivial) (.inl rfl) (fun b u hb hu => (sb.2 b hb).trans hu) he (setTO_new new))
def rSortTO (P : Program) (w : World) : List V → Hp → VK → Prop := fun vs H Q => ∃ (a : Addr) (l : List Str), vs = [V.ref a] ∧ H a = some (SetTO P w a l) ∧ ∀ p, H p = none → Q (.ref p) (upd H p (.lst ((sortS l).map V.str)))
theorem cr_sortTO (hc : X.calm = true) (hu : X.A.units + 64 < cLine) : CallR X (.builtin "sorted") (rSortTO X.prog X.w) := by
  intro pins s σ H vs us Q I r h
  obtain ⟨a, l, rfl, ha, q⟩ := h
  rw [Vals.ref1 r]
  refine sorted_T (setTO_get I ha) (I.ok.hd hc) hu fun s' p out c k g o hp hg hi => ?_
  have hlen : ((sortS l).map V.str).length ≤ sizeLine := by
    have ⟨_, _, _, _, hb, _⟩ := setTO_get I ha
    rw [List.length_map, (sortS_perm l).length_eq]
    exact fits_of_scanBound hb
  have hn : H p = none := I.hok.fresh hp
  have J : Inv X pins σ (upd H p (.lst ((sortS l).map V.str))) { s with heap := s'.heap, gens := s'.gens, drawn := s'.drawn, toks := s'.toks } :=
    I.call (ch := []) (Un.laid k hp hn) (I.hok.laid k hp ⟨hlen, out, c, hi, hg⟩) (by rw [g]; exact I.bare) (fun _ z => nomatch z)
  have e : s' = { s with heap := s'.heap, gens := s'.gens, drawn := s'.drawn, toks := s'.toks } := by
    cases s'; cases s; cases o; rfl
  rw [e]
  exact ⟨.ref p, _, J, rfl, q p hn⟩
end
/-! ### the comprehension: two clauses without tests -/
abbrev sc2 (elt t0 i0 t1 i1 : Expr) (scope : Scope) (pos : Pos) : Expr := .SetComp elt [⟨t0, i0, [], 0⟩, ⟨t1, i1, [], 0⟩] scope pos
section
variable {prog : Program} {w : World} {A : Around} {R : Result → Shared → Prop} {s : Shared} {elt t0 i0 t1 i1 : Expr} {scope : Scope} {pos : Pos} {it acc : Value} {env : Env}
theorem turn_out : compTurn (sc2 elt t0 i0 t1 i1 scope pos) 0 it acc env = (do
    standAt i0.pos
    match ← pyNext it with
    | none => pure (.done .next)
    | some v =>
      letOwnedTupleGo t0 it v; assign t0 env v
      let x ← eval i1 env
      standAt i1.pos
      let x ← foldedSetIterable i1 env x
      let _ ← runOwn (.compStart (sc2 elt t0 i0 t1 i1 scope pos) 1 (← holding [x] (pyIter x)) acc env) env
      again (.compLoop (sc2 elt t0 i0 t1 i1 scope pos) 0 it acc env)) := by rfl
theorem turn_in : compTurn (sc2 elt t0 i0 t1 i1 scope pos) 1 it acc env = (do
    standAt i1.pos
    match ← pyNext it with
    | none => pure (.done .next)
    | some v =>
      letOwnedTupleGo t1 it v; assign t1 env v
      (do let v ← eval elt env; standAt elt.pos; let _ ← call (.builtin "set.add") [acc, v])
      again (.compLoop (sc2 elt t0 i0 t1 i1 scope pos) 1 it acc env)) := by rfl
end
section
variable {prog : Program} {w : World} {A : Around} {R : Result → Shared → Prop} {s : Shared} {elt t0 i0 t1 i1 : Expr} {scope : Scope} {pos : Pos} {it acc : Value} {env : Env}
abbrev Bad (prog : Program) (w : World) (A : Around) (env : Env) (R : Result → Shared → Prop) : Value → Shared → Prop := notedBy (model prog w) A env fun e s' => R (.error e) s'
theorem run_in (J : Nat → Shared → Prop) (turn : ∀ k u, J k u → wpAny (model prog w) A (pyNext it) (fun r u1 => match r with
      | none => R (.ok .next) u1
      | some v => wpAny (model prog w) A (letOwnedTupleGo t1 it v) (fun _ u2 => wpAny (model prog w) A (assign t1 env v) (fun _ u3 => wpAny (model prog w) A (eval elt env) (fun x u4 =>
          wpAny (model prog w) A (call (.builtin "set.add") [acc, x]) (fun _ u5 => ∃ m, m < k ∧ J m u5) (Bad prog w A env R) u4) (Bad prog w A env R) u3) (Bad prog w A env R) u2) (Bad prog w A env R) u1) (Bad prog w A env R) u)
    (k : Nat) (h : J k s) : codeAny (model prog w) A (.compLoop (sc2 elt t0 i0 t1 i1 scope pos) 1 it acc env) R s := by
  refine codeAny_loop rfl J (fun k u hJ => ?_) k h
  show wpAny _ A ((compTurn (sc2 elt t0 i0 t1 i1 scope pos) 1 it acc env).onRaise fun x => do noteFrame x env; theTreesLotGoes x) _ _ u
  refine wpAny_noted ?_
  rw [turn_in]
  refine wpAny_bind (wpAny_standAt (wpAny_bind (wpAny_mono (turn k u hJ) (fun r u1 z1 => ?_) fun _ _ z => z)))
  cases r with
  | none => exact wpAny_pure z1
  | some v =>
    refine wpAny_bind (wpAny_mono z1 (fun _ u2 z2 => wpAny_bind (wpAny_mono z2 (fun _ u3 z3 => ?_) fun _ _ z => z)) fun _ _ z => z)
    exact wpAny_bind (wpAny_bind (wpAny_mono z3 (fun x u4 z4 => wpAny_bind (wpAny_standAt (wpAny_bind (wpAny_mono z4 (fun _ u5 z5 => wpAny_pure (wpAny_pure ⟨rfl, z5⟩)) fun _ _ z => z)))) fun _ _ z => z))
theorem run_out (hf : ∀ x, foldedSetIterable i1 env x = pure x) (J : Nat → Shared → Prop) (turn : ∀ k u, J k u → wpAny (model prog w) A (pyNext it) (fun r u1 => match r with
      | none => R (.ok .next) u1
      | some v => wpAny (model prog w) A (letOwnedTupleGo t0 it v) (fun _ u2 => wpAny (model prog w) A (assign t0 env v) (fun _ u3 => wpAny (model prog w) A (eval i1 env) (fun x u4 => wpAny (model prog w) A (pyIter x) (fun it1 u5 =>
          codeAny (model prog w) A (.compStart (sc2 elt t0 i0 t1 i1 scope pos) 1 it1 acc env) (fun r u6 => match r with | .ok _ => ∃ m, m < k ∧ J m u6 | .error _ => False) u5) (Bad prog w A env R) u4) (Bad prog w A env R) u3) (Bad prog w A env R) u2) (Bad prog w A env R) u1) (Bad prog w A env R) u)
    (k : Nat) (h : J k s) : codeAny (model prog w) A (.compLoop (sc2 elt t0 i0 t1 i1 scope pos) 0 it acc env) R s := by
  refine codeAny_loop rfl J (fun k u hJ => ?_) k h
  show wpAny _ A ((compTurn (sc2 elt t0 i0 t1 i1 scope pos) 0 it acc env).onRaise fun x => do noteFrame x env; theTreesLotGoes x) _ _ u
  refine wpAny_noted ?_
  rw [turn_out]
  refine wpAny_bind (wpAny_standAt (wpAny_bind (wpAny_mono (turn k u hJ) (fun r u1 z1 => ?_) fun _ _ z => z)))
  cases r with
  | none => exact wpAny_pure z1
  | some v =>
    refine wpAny_bind (wpAny_mono z1 (fun _ u2 z2 => wpAny_bind (wpAny_mono z2 (fun _ u3 z3 => wpAny_bind (wpAny_mono z3 (fun x u4 z4 => ?_) fun _ _ z => z)) fun _ _ z => z)) fun _ _ z => z)
    refine wpAny_bind (wpAny_standAt (wpAny_bind (wpAny_of_eq (hf x) (wpAny_bind (wpAny_holding (wpAny_mono z4 (fun it1 u5 z5 => wpAny_bind (wpAny_runOwn ?_)) fun _ _ z => z))))))
    rw [Around.mark_none]
    refine codeAny_mono z5 fun r u6 z6 => ?_
    cases r with
    | ok f => first | exact wpAny_pure ⟨rfl, z6⟩ | exact wpAny_bind (wpAny_pure (wpAny_pure ⟨rfl, z6⟩))
    | error e => exact z6.elim
theorem run_st1 (a : codeAny (model prog w) A (.compLoop (sc2 elt t0 i0 t1 i1 scope pos) 1 it acc env) R s)
    (b : wpAny (model prog w) A (pyIter it) (fun it' u => codeAny (model prog w) A (.compLoop (sc2 elt t0 i0 t1 i1 scope pos) 1 it' acc env) R u) (Bad prog w A env R) s) : codeAny (model prog w) A (.compStart (sc2 elt t0 i0 t1 i1 scope pos) 1 it acc env) R s := by
  refine codeAny_of_tree ?_
  show wpAny _ _ ((PySem.compStart (sc2 elt t0 i0 t1 i1 scope pos) 1 it acc env).onRaise fun x => do noteFrame x env; standAt theWindowsPlace) _ _ s
  refine wpAny_notedAt ?_
  unfold PySem.compStart
  show wpAny _ _ (ask >>= _) _ _ s
  refine wpAny_bind (wpAny_askSetting (wpAny_ite ?_))
  split
  · first | exact wpAny_bind (wpAny_pure (wpAny_pure ⟨rfl, a⟩)) | exact wpAny_pure ⟨rfl, a⟩
  · first
    | exact wpAny_bind (wpAny_rule (wpAny_bind (wpAny_standAt (wpAny_bind (wpAny_mono b (fun _ _ z => wpAny_pure ⟨rfl, z⟩) fun _ _ z => z)))))
    | (refine wpAny_bind (wpAny_rule ?_); show wpAny _ _ (standAt i1.pos >>= _) _ _ s; exact wpAny_bind (wpAny_standAt (wpAny_bind (wpAny_mono b (fun _ _ z => wpAny_pure ⟨rfl, z⟩) fun _ _ z => z))))
end
/-! an iterator between two turns -/
structure Mid (Y : Cx) (pins : List (Addr × Obj)) (σ : L2.St) (fp : List Addr) (tn : Nat → Heap → Prop) (i : Nat) (H : Hp) (s : Shared) : Prop where
  inv : Inv Y pins σ H s
  st : tn i s.heap
  no : ∀ b ∈ fp, H b = none
theorem mid_back {Y : Cx} {pins : List (Addr × Obj)} {σ σ' : L2.St} {tg : Expr} {J : It} {fp : List Addr} {it : Addr} {tn : Nat → Heap → Prop} {i : Nat} {H : Hp} {s s0 : Shared} (T : Turn Y.prog Y.w Y.K tg J fp it tn) (st : tn i s0.heap) (I : Inv Y (pins ++ pinsAt fp s0.heap) σ' H s)
    (hl : σ.length = σ'.length) (hk : ∀ (j : Nat) v, σ[j]? = some (some v) → σ'[j]? = some (some v)) : Mid Y pins σ fp tn i H s := by
  have pin : ∀ b ∈ fp, ∀ o, s0.heap.get? b = some o → s.heap.get? b = some o ∧ H b = none := fun b hb o e => by
    have z := I.pin (b, o) (List.mem_append_right _ (List.mem_append_right _ (mem_pinsAt hb e)))
    exact ⟨z.1, z.2.1⟩
  refine ⟨I.unpinned.weak hl hk, T.keep _ _ _ st fun b hb o e => (pin b hb o e).1, fun b hb => ?_⟩
  obtain ⟨o, e, _⟩ := T.obj _ _ st b hb
  exact (pin b hb o e).2
section
variable {X : Cx}
/-- {elt for t0 in i0 for t1 in i1}, elt a text: q the new set -/
def tSc2 (P : Program) (w : World) (wi : TI) (g : TG) (wi1 : TI) (g1 : TG) (te : TE) (vs vs1 : List Nat) : TE := fun σ H Q => wi σ H fun J H1 => ∀ q, H1 q = none → ∃ W : Nat → Nat → Hp → Prop, (∃ m, W 0 m (upd H1 q (SetTO P w q []))) ∧ ∀ i m H, W i m H →
  (J.stop i H ∧ Q (.ref q) H) ∨ (J.go i H ∧ ∃ Nx : Hp → Prop, (∀ H', Nx H' → ∃ m', m' < m ∧ W (i + 1) m' H') ∧ ∀ x H', J.yld i H x H' → g x (L2.wipe σ vs) H' fun σ2 H2 => L2.wipe σ2 vs = L2.wipe σ vs ∧ wi1 σ2 H2 fun J1 H4 => ∃ W1 : Nat → Nat → Hp → Prop, (∃ m, W1 0 m H4) ∧ ∀ j k H, W1 j k H →
    (J1.stop j H ∧ Nx H) ∨ (J1.go j H ∧ ∃ Nx1 : Hp → Prop, (∀ H', Nx1 H' → ∃ k', k' < k ∧ W1 (j + 1) k' H') ∧ ∀ x H', J1.yld j H x H' → g1 x (L2.wipe σ2 vs1) H' fun σ3 H5 => L2.wipe σ3 vs1 = L2.wipe σ2 vs1 ∧
      te σ3 H5 fun y H7 => ∃ (z : Str) (l : List Str), y = .str z ∧ H7 q = some (SetTO P w q l) ∧ l.length + 1 < scanBound ∧ Nx1 (upd H7 q (SetTO P w q (addS l z)))))
abbrev InB (X : Cx) (scope : Scope) (φ : Cx → Prop) : Prop := ∀ (s : Shared) (H : Hp) (C : Addr) (cl : List (Str × Addr)) (fp : List Addr), φ (X.blk s H scope (compEnvC scope cl C X.env) fp)
theorem pe_sc2 {elt t0 i0 t1 i1 : Expr} {scope : Scope} {own : List (Str × Nat)} {vs1 : List Nat} {pos : Pos} {wi wi1 : TI} {g g1 : TG} {te : TE} (hc : X.calm = true) (hN : X.N.Nodup) (hi : PI X t0 i0 wi) (ok : BlkOk X.N X.env.scope scope own) (hv : ∀ i ∈ vs1, i ∈ own.map (·.2))
    (hg : InB X scope fun Y => PG Y t0 g) (hi1 : InB X scope fun Y => PI Y t1 i1 wi1) (hg1 : InB X scope fun Y => PG Y t1 g1) (he : InB X scope fun Y => PE Y elt te)
    (hs : ∀ x, foldedSetIterable i0 X.env x = pure x := by intro _; rfl) (hs1 : ∀ env x, foldedSetIterable i1 env x = pure x := by intro _ _; rfl) :
    PE X (sc2 elt t0 i0 t1 i1 scope pos) (tSc2 X.prog X.w wi g wi1 g1 te (own.map (·.2)) vs1) := by
  refine ⟨fun pins s σ H Q I h => ?_⟩
  rw [PpSet.eval_SetComp]
  have clo : ∀ y ∈ scope.names, y.2 = .free → ∃ c, X.env.cells.lookup y.1 = some c := fun y hy e => (ok.free y hy e).elim (fun k => I.ok.has _ (.inl k)) fun k => I.ok.has _ (.inr k)
  refine wpAny_comprehension_free (use := none) rfl hs (closure_ok clo) ok.kind (fun y hy e => (ok.uniq y hy).trans (by rw [e])) (thn (hi.run pins s σ H _ I h) fun xv s1 hx => thn hx fun itv s2 ⟨it, fp, tn, J, H2, e, I2, T, st2, f2, body⟩ => PpSet.newSet_ok (newEnv_comp ?_))
  subst e
  -- the new set
  have hq : H2 s2.heap.objs.size = none := I2.hok.fresh (Nat.le_refl _)
  obtain ⟨W, ⟨m0, w0⟩, turn⟩ := body _ hq
  let s3 : Shared := { s2 with heap := s2.heap.push { cls := .type "set", dict := none, data := .set #[] 0 (.fresh 0 0 (!X.w.params.followText "set-order")) } }
  have I3 : Inv X pins σ (upd H2 s2.heap.objs.size (SetTO X.prog X.w s2.heap.objs.size [])) s3 := I2.laid (t' := s2.toks) (fun b o z => Heap.get?_push_of_some _ z) (Nat.le_refl _) (setTO_new setT_fresh)
  have f3 : ∀ b ∈ fp, FpOk X pins (upd H2 s2.heap.objs.size (SetTO X.prog X.w s2.heap.objs.size [])) b ∧ b < s3.heap.objs.size := fun b hb => by
    obtain ⟨o, z, _⟩ := T.obj _ _ st2 b hb
    have lt := Heap.lt_size z
    exact ⟨⟨(upd_ne (Nat.ne_of_lt lt)).trans (f2 b hb).1, (f2 b hb).2⟩, Nat.lt_of_lt_of_le lt (by show _ ≤ (s2.heap.push _).objs.size; rw [Heap.size_push]; exact Nat.le_succ _)⟩
  generalize hH3 : upd H2 s2.heap.objs.size (SetTO X.prog X.w s2.heap.objs.size []) = H3 at w0 I3 f3
  generalize hq0 : s2.heap.objs.size = q at w0 turn hH3
  have st3 : tn 0 s3.heap := T.keep _ _ _ st2 fun b _ o z => Heap.get?_push_of_some _ z
  have I4 := block_start I3 ok hN f3
  let ce : Env := compEnvC scope (cellsFrom (s3.heap.objs.size + 1) scope.names (cloFrom X.env.cells scope.names [])) s3.heap.objs.size X.env
  let Y : Cx := X.blk s3 H3 scope ce fp
  have pg : PG Y t0 g := hg _ _ _ _ _
  have pi1 : PI Y t1 i1 wi1 := hi1 _ _ _ _ _
  have pg1 : PG Y t1 g1 := hg1 _ _ _ _ _
  have pe : PE Y elt te := he _ _ _ _ _
  let s4 : Shared := { s3 with heap := pushCells (s3.heap.push { cls := .type "dict", data := .dict #[] }) scope.names }
  have I4 : Inv Y [] (L2.wipe σ (own.map (·.2))) H3 s4 := I4
  have st4 : tn 0 s4.heap := T.keep _ _ _ st3 fun b _ o z => pushCells_keeps _ _ _ _ (Heap.get?_push_of_some _ z)
  show codeAny _ _ (.compStart (sc2 elt t0 i0 t1 i1 scope pos) 0 (.ref it) (.ref q) ce) (compPost (model X.prog X.w) X.A X.xe none (EP X pins σ Q) (.ref q) s3.heap.objs.size) s4
  have sta : ∀ {τ : L2.St} {H' : Hp} {u : Shared}, Inv Y [] τ H' u → (∀ b ∈ fp, H' b = none) → ∀ b ∈ fp, FpOk Y [] H' b := fun {τ H' u} K hn b hb =>
    have z := K.ok.exf b hb
    ⟨hn b hb, z.1, K.ok.exfs b hb, .inl hb, fun x c e => z.2 x c e, fun p hp => absurd (show p ∈ ([] : List (Addr × Obj)) ++ [] from hp) (by simp)⟩
  have loop : codeAny (model X.prog X.w) X.A (.compLoop (sc2 elt t0 i0 t1 i1 scope pos) 0 (.ref it) (.ref q) ce) (compPost (model X.prog X.w) X.A X.xe none (EP X pins σ Q) (.ref q) s3.heap.objs.size) s4 := by
    refine run_out (hs1 ce) (fun k u => ∃ i H', Mid Y [] (L2.wipe σ (own.map (·.2))) fp tn i H' u ∧ W i k H') ?_ m0 ⟨0, H3, ⟨I4, st4, fun b hb => (f3 b hb).1.1⟩, w0⟩
    rintro k u ⟨i, H5, D5, w5⟩
    rcases turn i k H5 w5 with ⟨stop, qq⟩ | ⟨go, Nx, hNx, step⟩
    · refine thnF (T.done Y rfl rfl rfl hc i [] u _ H5 (fun _ _ => False) D5.inv (sta D5.inv D5.no) D5.st stop) fun r u6 ⟨er, I6⟩ => ?_
      subst er
      have I7 : Inv X pins σ H5 u6 := I3.call' (ch := fp) I6.os I6.base I6.hok I6.bare fun b hb => have z := (f3 b hb).1.2; ⟨z.2.2.1, z.1, z.2.2.2.1, z.2.2.2.2⟩
      have nC : H5 s3.heap.objs.size = none := I6.free
      obtain ⟨m, hn, _⟩ := I6.loc
      obtain ⟨y0, y1, y2, y3, y4, y5⟩ := I3.fpOk (H' := H5) (Nat.le_refl _) nC
      exact ⟨m, hn, fun h'' sb => ⟨.ref q, H5, I7.turned (t' := u6.toks) (fun b o hb z => (sb.2 b hb).trans z) y0 y1 y3 y4 y5, rfl, qq⟩⟩
    · refine thnF (T.item Y rfl rfl rfl hc i [] u _ H5 (fun _ _ => False) D5.inv (sta D5.inv D5.no) D5.st go) fun r u6 ⟨v, er, z6⟩ => ?_
      subst er
      refine thnF z6 fun _ u7 ⟨x, H7, I7, r7, y7, st7, n7⟩ => ?_
      refine thnF (pg.run _ u7 _ H7 x v _ (I7.pinned (sta I7 n7) (T.obj _ _ st7)) r7 (step x H7 y7)) fun _ u8 ⟨σ8, H8, I8, hw8, q8⟩ => ?_
      refine thnF (pi1.run _ u8 σ8 H8 _ I8 q8) fun xv u9 z9 => thnF z9 fun itv u10 ⟨it1, fp1, tn1, J1, H10, e1, I10, T1, st10, f10, W1, ⟨m1, w1⟩, turn1⟩ => ?_
      subst e1
      have l8 : (L2.wipe σ (own.map (·.2))).length = σ8.length := by rw [← hw8, L2.wipe_length]
      have k9 : ∀ (j : Nat) v, (L2.wipe σ (own.map (·.2)))[j]? = some (some v) → (L2.wipe σ8 vs1)[j]? = some (some v) := fun j v z => by
        rw [← hw8] at z
        obtain ⟨z1, z2⟩ := wipe_some z
        rw [L2.wipe_out fun y => z2 (hv j y)]
        exact z1
      have sta1 : ∀ {H' : Hp}, (∀ b ∈ fp1, H' b = none) → ∀ b ∈ fp1, FpOk Y ([] ++ pinsAt fp u7.heap) H' b := fun hn b hb => ⟨hn b hb, (f10 b hb).2⟩
      have inner : codeAny (model X.prog X.w) X.A (.compLoop (sc2 elt t0 i0 t1 i1 scope pos) 1 (.ref it1) (.ref q) ce) (fun r u6 => match r with | .ok _ => ∃ m, m < k ∧ ∃ i H', Mid Y [] (L2.wipe σ (own.map (·.2))) fp tn i H' u6 ∧ W i m H' | .error _ => False) u10 := by
        refine run_in (fun k1 u => ∃ j H', Mid Y ([] ++ pinsAt fp u7.heap) (L2.wipe σ8 vs1) fp1 tn1 j H' u ∧ W1 j k1 H') ?_ m1 ⟨0, H10, ⟨I10.weak (L2.wipe_length _ _) fun j v z => (wipe_some z).1, st10, fun b hb => (f10 b hb).1⟩, w1⟩
        rintro k1 u12 ⟨j, H12, D12, w12⟩
        rcases turn1 j k1 H12 w12 with ⟨stop1, nx⟩ | ⟨go1, Nx1, hNx1, step1⟩
        · refine thnF (T1.done Y rfl rfl rfl hc j _ u12 _ H12 (fun _ _ => False) D12.inv (sta1 D12.no) D12.st stop1) fun r u13 ⟨er, I13⟩ => ?_
          subst er
          obtain ⟨m', hm, w'⟩ := hNx _ nx
          exact ⟨m', hm, i + 1, H12, mid_back T st7 I13 (l8.trans (L2.wipe_length σ8 vs1).symm) k9, w'⟩
        · refine thnF (T1.item Y rfl rfl rfl hc j _ u12 _ H12 (fun _ _ => False) D12.inv (sta1 D12.no) D12.st go1) fun r u13 ⟨v1, er, z13⟩ => ?_
          subst er
          refine thnF z13 fun _ u14 ⟨x1, H14, I14, r14, y14, st14, n14⟩ => ?_
          refine thnF (pg1.run _ u14 _ H14 x1 v1 _ (I14.pinned (sta1 n14) (T1.obj _ _ st14)) r14 (step1 x1 H14 y14)) fun _ u15 ⟨σ15, H15, I15, hw15, q15⟩ => ?_
          refine thnF (pe.run _ u15 σ15 H15 _ I15 q15) fun z u16 ⟨yv, H16, I16, r16, zt, l, ey, hD, room, nx1⟩ => ?_
          subst ey
          obtain ⟨t, rfl⟩ := r16
          refine addT_ok (X := Y) I16 hD room fun u17 I17 => ?_
          obtain ⟨m', hm, w'⟩ := hNx1 _ nx1
          exact ⟨m', hm, j + 1, _, mid_back T1 st14 I17 (by rw [← hw15, L2.wipe_length]) (fun j v z => by rw [← hw15] at z; exact (wipe_some z).1), w'⟩
      exact run_st1 inner (T1.self X.A 0 _ _ _ st10 inner)
  exact PpSet.codeAny_compStart_set loop (T.self X.A 0 _ _ _ st4 loop)
end
end DV
/-! sorted({e for x in xs for y in ys}) of texts, deep. -/
namespace DV
open PySem PySem.Spec PyProof.Rows L2
def dScL (src : Option (Nat × List D)) (g : D → Gam → Mu → (Gam → Prop) → Prop) (te : DTE) (Γ : Gam) : List D → List Str → Mu → (List Str → Mu → Prop) → Prop
  | [], acc, μ, Q => Gd src μ ∧ Q acc μ
  | d :: ds, acc, μ, Q => Gd src μ ∧ g d Γ μ fun Γ1 => te Γ1 μ (fun y μ2 => match y with | .str z => acc.length + 1 < scanBound ∧ dScL src g te Γ ds (addS acc z) μ2 Q | _ => False) fun _ _ => False
def dScO (src : Option (Nat × List D)) (g : D → Gam → Mu → (Gam → Prop) → Prop) (fi1 : DTI) (g1 : D → Gam → Mu → (Gam → Prop) → Prop) (te : DTE) (vs1 : List Nat) (Γ : Gam) : List D → List Str → Mu → (List Str → Mu → Prop) → Prop
  | [], acc, μ, Q => Gd src μ ∧ Q acc μ
  | d :: ds, acc, μ, Q => Gd src μ ∧ g d Γ μ fun Γ1 => fi1 Γ1 μ (fun src1 ds1 μ1 => dScL src1 g1 te (wipeG Γ1 vs1) ds1 acc μ1 fun acc2 μ2 => dScO src g fi1 g1 te vs1 Γ ds acc2 μ2 Q) fun _ _ => False
def dSortSC (fz : Bool) (vs vs1 : List Nat) (fi : DTI) (g : D → Gam → Mu → (Gam → Prop) → Prop) (fi1 : DTI) (g1 : D → Gam → Mu → (Gam → Prop) → Prop) (te : DTE) : DTE := fun Γ μ Q E => fi Γ μ (fun src ds μ1 => dScO src g fi1 g1 te vs1 (wipeG Γ vs) ds [] μ1 fun acc μ2 => dFin fz ((sortS acc).map .str) μ2 Q) E
theorem sgd_of {src : Option (Nat × List D)} {g : D → Gam → Mu → (Gam → Prop) → Prop} {te : DTE} {Γ : Gam} {μ : Mu} {Q : List Str → Mu → Prop} : ∀ (ds : List D) (acc : List Str), dScL src g te Γ ds acc μ Q → Gd src μ
  | [], _, h => h.1
  | _ :: _, _, h => h.1
theorem sgd_ofO {src : Option (Nat × List D)} {g g1 : D → Gam → Mu → (Gam → Prop) → Prop} {fi1 : DTI} {te : DTE} {vs1 : List Nat} {Γ : Gam} {μ : Mu} {Q : List Str → Mu → Prop} : ∀ (ds : List D) (acc : List Str), dScO src g fi1 g1 te vs1 Γ ds acc μ Q → Gd src μ
  | [], _, h => h.1
  | _ :: _, _, h => h.1
theorem sc2_go {K : PySem.W.Frag} {W : WX} {P : Program} {w : World} {fz : Bool} {vs vs1 : List Nat} {fi fi1 : DTI} {g g1 : TG} {gd gd1 : D → Gam → Mu → (Gam → Prop) → Prop} {te : DTE} (hg : CT K vs g gd) (hg1 : CT K vs1 g1 gd1) (σ : L2.St) (H : Hp) (Q : VK) (h : lift K W (dSortSC fz vs vs1 fi gd fi1 gd1 te) σ H Q) :
    tSc2 P w (liftI K W fi) g (liftI K W0 fi1) g1 (lift K W0 te) vs vs1 σ H (fun x H1 => rSortTO P w [x] H1 Q) := by
  obtain ⟨n, Γ, μ, Qd, Ed, hH, sr, gr, h, hq, hx⟩ := h
  subst hH
  refine ⟨n, Γ, μ, _, _, rfl, sr, gr, h, fun n1 src ds μ1 J s1 r1 wk q p hp => ?_, hx⟩
  have gw := (gr.step s1).wipe vs
  let Ou : Nat → Hp → Prop := fun i H' => ∃ n2 μ2 acc, n2.H = H' ∧ Step n1 n2 ∧ SR0 K n2 μ2 ∧ Hid n2 p ∧ n2.H p = some (SetTO P w p acc) ∧ dScO src gd fi1 gd1 te vs1 (wipeG Γ vs) (ds.drop i) acc μ2 (fun acc μ2 => dFin fz ((sortS acc).map .str) μ2 Qd)
  refine ⟨fun i m H' => m = ds.length - i ∧ i ≤ ds.length ∧ Ou i H', ⟨ds.length, by simp, Nat.zero_le _, n1.more p _, μ1, [], rfl, Step.more hp, r1.more hp, ⟨r1.hb hp, r1.nal hp, r1.nph hp⟩, upd_same, q⟩, ?_⟩
  rintro i m H' ⟨rfl, hi, n2, μ2, acc, rfl, s2, r2, hid, hv, q2⟩
  have gd2 : Gd src μ2 := sgd_ofO _ _ q2
  by_cases hlt : i < ds.length
  · refine .inr ⟨wk.goes n2 μ2 i s2.sp r2 gd2 hlt, Ou (i + 1), fun H3 p3 => ⟨ds.length - (i + 1), by omega, rfl, hlt, p3⟩, fun x H3 y => ?_⟩
    rw [List.drop_eq_getElem_cons hlt] at q2
    obtain ⟨n3, rfl, s3, r3, p3⟩ := wk.yields n2 μ2 i x H3 ds[i] s2.sp r2 gd2 (by rw [List.getElem?_eq_getElem hlt]) y
    refine hg n3 μ2 x ds[i] (wipeG Γ vs) (L2.wipe σ vs) _ _ r3 ((gw.step s2).step s3) p3 q2.2 fun Γ4 σ4 g4 hl4 ha4 q4 => ⟨(wipe_eq hl4 ha4).trans (wipe_twice σ vs), ?_⟩
    obtain ⟨hid3, hv3⟩ := hid.step hv s3
    refine ⟨n3, Γ4, μ2, _, _, rfl, r3, g4, q4, fun n6 src1 ds1 μ6 J1 s6 r6 w1 q6 => ?_, fun _ _ _ _ _ _ _ _ z => z⟩
    obtain ⟨hid6, hv6⟩ := hid3.step hv3 s6
    have gw1 := (g4.step s6).wipe vs1
    have s16 : Step n1 n6 := (s2.trans s3).trans s6
    let In : Nat → Hp → Prop := fun j H' => ∃ n7 μ7 acc, n7.H = H' ∧ SP n6 n7 ∧ Step n1 n7 ∧ SR0 K n7 μ7 ∧ Hid n7 p ∧ n7.H p = some (SetTO P w p acc) ∧ dScL src1 gd1 te (wipeG Γ4 vs1) (ds1.drop j) acc μ7 fun acc2 μ2 => dScO src gd fi1 gd1 te vs1 (wipeG Γ vs) (ds.drop (i + 1)) acc2 μ2 (fun acc μ2 => dFin fz ((sortS acc).map .str) μ2 Qd)
    refine ⟨fun j k H' => k = ds1.length - j ∧ j ≤ ds1.length ∧ In j H', ⟨ds1.length, by simp, Nat.zero_le _, n6, μ6, acc, rfl, (Step.refl _).sp, s16, r6, hid6, hv6, q6⟩, ?_⟩
    rintro j k H' ⟨rfl, hj, n7, μ7, acc7, rfl, s67, s17, r7, hid7, hv7, q7⟩
    have gd7 : Gd src1 μ7 := sgd_of _ _ q7
    by_cases hjt : j < ds1.length
    · refine .inr ⟨w1.goes n7 μ7 j s67 r7 gd7 hjt, In (j + 1), fun H3 p3 => ⟨ds1.length - (j + 1), by omega, rfl, hjt, p3⟩, fun x1 H8 y1 => ?_⟩
      rw [List.drop_eq_getElem_cons hjt] at q7
      obtain ⟨n8, rfl, s8, r8, p8⟩ := w1.yields n7 μ7 j x1 H8 ds1[j] s67 r7 gd7 (by rw [List.getElem?_eq_getElem hjt]) y1
      refine hg1 n8 μ7 x1 ds1[j] (wipeG Γ4 vs1) (L2.wipe σ4 vs1) _ _ r8 (gw1.sp (s67.trans s8.sp)) p8 q7.2 fun Γ9 σ9 g9 hl9 ha9 q9 => ⟨(wipe_eq hl9 ha9).trans (wipe_twice σ4 vs1), ?_⟩
      obtain ⟨hid8, hv8⟩ := hid7.step hv7 s8
      refine lift_go r8 g9 q9 (fun n11 y dy μ11 s11 r11 p11 q11 => ?_) (fun _ _ _ _ _ _ _ _ z => z)
      obtain ⟨hid11, hv11⟩ := hid8.step hv8 s11
      split at q11
      · rename_i z
        cases p11
        exact ⟨z, acc7, rfl, hv11, q11.1, n11.more p _, μ11, addS acc7 z, rfl, ⟨((s67.trans s8.sp).trans s11.sp).same, ((s67.trans s8.sp).trans s11.sp).pre⟩, Step.other ((s17.trans s8).trans s11) hp, r11.other hid11, ⟨hid11.b, hid11.a, hid11.ph⟩, upd_same, q11.2⟩
      · exact q11.elim
    · have e : j = ds1.length := by omega
      subst e
      rw [List.drop_length] at q7
      exact .inl ⟨w1.stops n7 μ7 s67 r7 gd7, n7, μ7, acc7, rfl, s17, r7, hid7, hv7, q7.2⟩
  · have e : i = ds.length := by omega
    subst e
    rw [List.drop_length] at q2
    refine .inl ⟨wk.stops n2 μ2 s2.sp r2 gd2, p, acc, rfl, hv, fun l hl => ?_⟩
    exact fin_lst (LV.step hq (s1.trans s2)) r2 hl (reps_strs (sortS acc)) q2.2
section
variable {X : Cx} {W : WX} {elt t0 i0 t1 i1 : Expr} {scope : Scope} {own : List (Str × Nat)} {vs1 : List Nat} {pos p pos' : Pos} {fi fi1 : DTI} {g g1 : TG} {gd gd1 : D → Gam → Mu → (Gam → Prop) → Prop} {te : DTE}
theorem de_sortSC (fz : Bool) (hu : X.A.units + 64 < cLine) (hgl : Gl X "sorted") (hm : X.mg "sorted" = none) (hc : X.calm = true) (hN : X.N.Nodup) (hi : DI X W t0 i0 fi) (ok : BlkOk X.N X.env.scope scope own) (hv : ∀ i ∈ vs1, i ∈ own.map (·.2)) (hct : CT X.K (own.map (·.2)) g gd) (hct1 : CT X.K vs1 g1 gd1)
    (hg : InB X scope fun Y => PG Y t0 g) (hi1 : InB X scope fun Y => PI Y t1 i1 (liftI X.K W0 fi1)) (hg1 : InB X scope fun Y => PG Y t1 g1) (he : InB X scope fun Y => PE Y elt (lift X.K W0 te))
    (hs : ∀ x, foldedSetIterable i0 X.env x = pure x := by intro _; rfl) (hs1 : ∀ env x, foldedSetIterable i1 env x = pure x := by intro _ _; rfl)
    (hst : starEach [sc2 elt t0 i0 t1 i1 scope pos] X.env = (false, eval (sc2 elt t0 i0 t1 i1 scope pos) X.env) :: starEach [] X.env := by rfl) :
    DE X W (.Call (.Name "sorted" p) [sc2 elt t0 i0 t1 i1 scope pos] [] pos') (dSortSC fz (own.map (·.2)) vs1 fi gd fi1 gd1 te) :=
  PE.imp (pe_callB (cr_sortTO hc hu) hgl hm (by decide +kernel) (pa_cons (pe_sc2 hc hN hi ok hv hg hi1 hg1 he hs hs1) pa_nil hst) (by decide) (by decide) hst rfl) fun σ H Q h => sc2_go hct hct1 σ H Q h
end
end DV
/-! Own classes as callers see them. -/
namespace DV
open PySem PySem.Spec PyProof.Rows L2
/-- the classes' places: Table, Wishes, Unrest, Round, Verdict, Book, Power, Tree -/
structure Cs where
  T : Addr := 0
  W : Addr := 0
  U : Addr := 0
  R : Addr := 0
  V : Addr := 0
  B : Addr := 0
  P : Addr := 0
  E : Addr := 0
def HasI (P : Program) (w : World) (K : PySem.W.Frag) (mg : Str → Option Value) (base : Heap) (C : Addr) (x : Str) (k : Nat) (ps : List Str) (S : DSp) : Prop :=
  ∃ f fd, mg x = some (.ref C) ∧ Mk K C f ∧ Binds K fd ps [] ∧ FnOk P w K mg base (L2.CX P w) k f fd ps (spOf K S)
def HasM (P : Program) (w : World) (K : PySem.W.Frag) (mg : Str → Option Value) (base : Heap) (C : Addr) (m : Str) (k : Nat) (ps : List Str) (S : DSp) : Prop :=
  ∃ f fd, Meth K C m f ∧ Binds K fd ps [] ∧ FnOk P w K mg base (L2.CX P w) k f fd ps (spOf K S)
def HasP (P : Program) (w : World) (K : PySem.W.Frag) (mg : Str → Option Value) (base : Heap) (C : Addr) (m : Str) (k : Nat) (ps : List Str) (S : DSp) : Prop :=
  ∃ p f fd, PropOf K C m p f ∧ Binds K fd ps [] ∧ FnOk P w K mg base (L2.CX P w) k f fd ps (spOf K S)
section
variable {X : Cx} {W : WX} {o e i : Expr} {es : List Expr} {m x : Str} {p pos apos : Pos} {fo fi : DTE} {fr : DTA} {C : Addr} {k : Nat} {ps : List Str} {S : DSp}
theorem de_makeH (h : HasI X.prog X.w X.K X.mg X.base C x k ps S) (hr : Room (k + 1) X.A) (hg : Gl X x) (tk : Takes X W) (ha : DA X W (e :: es) fr) (hdb : (x == ("__debug__" : Str)) = false := by decide)
    (he : starEach (e :: es) X.env = (false, eval e X.env) :: starEach es X.env := by rfl) (hpl : (backTo pos (starEach es X.env)).any (·.1) = false := by rfl) : DE X W (.Call (.Name x p) (e :: es) [] pos) (dMake C S fr) := by
  obtain ⟨f, fd, h1, h2, h3, h4⟩ := h
  exact de_make h2 h4 hr hg h1 h3 tk ha hdb he hpl
theorem de_propH (c : Cls X.K C) (h : HasP X.prog X.w X.K X.mg X.base C m k ps S) (hr : Room (k + 1) X.A) (he : DE X W e fo) (hab : attributeBase e m X.env (eval e X.env) = eval e X.env := by rfl) : DE X W (.Attribute e m pos) (dProp C S fo) := by
  obtain ⟨pr, f, fd, h1, h2, h3⟩ := h
  exact de_prop c h1 h3 hr h2 he hab
end
end DV
/-! The oracle of the second kind: _law_start, _law_take. -/
namespace DV
open PySem PySem.Spec PyProof.Rows L2
structure StB (μ : Mu) (l l0 : Nat) (j k : Int) (xs : List Int) : Prop where
  c : μ[l]? = some (.lst [.ref l0, .int j, .int k])
  c0 : μ[l0]? = some (.lst (xs.map .int))
  n0 : l ≠ l0
theorem ixN_nat {n : Nat} {i : Int} (h0 : 0 ≤ i) (h1 : i < n) : ixN n i = some i.toNat := by
  unfold ixN
  rw [if_pos h0, if_pos (by omega)]
section
variable {μ : Mu} {l l0 : Nat} {j k : Int} {xs : List Int}
theorem StB.ix0 (h : StB μ l l0 j k xs) (Q : D → Mu → Prop) : gIx (.ref l) (.int 0) μ Q = Q (.ref l0) μ := by
  unfold gIx; rw [lk_cell h.c]; rfl
theorem StB.ix1 (h : StB μ l l0 j k xs) (Q : D → Mu → Prop) : gIx (.ref l) (.int 1) μ Q = Q (.int j) μ := by
  unfold gIx; rw [lk_cell h.c]; rfl
theorem StB.ix2 (h : StB μ l l0 j k xs) (Q : D → Mu → Prop) : gIx (.ref l) (.int 2) μ Q = Q (.int k) μ := by
  unfold gIx; rw [lk_cell h.c]; rfl
theorem StB.put (h : StB μ l l0 j k xs) (j' k' : Int) : StB (μ.set l (.lst [.ref l0, .int j', .int k'])) l l0 j' k' xs :=
  ⟨by rw [List.getElem?_set_self (List.getElem?_eq_some_iff.mp h.c).1], by rw [List.getElem?_set_ne h.n0]; exact h.c0, h.n0⟩
theorem StB.self (h : StB μ l l0 j k xs) : μ.set l0 (.lst (xs.map D.int)) = μ := by
  obtain ⟨h1, h2⟩ := List.getElem?_eq_some_iff.mp h.c0
  rw [← h2, List.set_getElem_self]
end
/-- a draw, as the law's defs see it: any number below the limit; the oracle has one draw less -/
def S_take : DSp := fun ds μ Q _ => ∃ l n m, ds = [.ref l, .int m] ∧ μ[l]? = some (.orc (n + 1, false)) ∧ 0 < m ∧ m.natAbs.log2 < 9000 ∧ ∀ d, 0 ≤ d → d < m → Q (.int d) (μ.set l (.orc (n, false)))
theorem get_app1_lt {α : Type} {l : List α} {x z : α} {i : Nat} (h : (l ++ [x])[i]? = some z) : (i < l.length ∧ l[i]? = some z) ∨ (i = l.length ∧ z = x) := by
  by_cases hi : i < l.length
  · rw [List.getElem?_append_left hi] at h; exact .inl ⟨hi, h⟩
  · have hl := (List.getElem?_eq_some_iff.mp h).1
    simp at hl
    have h2 : i = l.length := by omega
    subst h2; simp at h; exact .inr ⟨rfl, h.symm⟩
/-! the start -/
end DV
/-! The head by facts: defs of the top, methods, getters of properties; the end of a law over it. -/
namespace DV
open PySem PySem.Spec PyProof.Rows L2
inductive At where
  | glo (x : Str) | meth (C m : Str) | prop (C f : Str) | ali (x y : Str)
def propA (K : PySem.W.Frag) (C : Addr) (f : Str) : Addr := match PySem.W.findIn K (.ref C) f with
  | some (some (.ref p)) => p
  | _ => 0
def getA (K : PySem.W.Frag) (p : Addr) : Addr := match PySem.W.recIn K p "property" with
  | some (.ref g :: _) => g
  | _ => (match PySem.W.recIn K p "classmethod" with
    | some (.ref g :: _) => g
    | _ => 0)
def At.ad (K : PySem.W.Frag) : At → Addr
  | .glo x => He.ga K x
  | .meth C m => He.ma K (He.ga K C) m
  | .prop C f => getA K (propA K (He.ga K C) f)
  | .ali x _ => He.ga K x
def At.name : At → Str
  | .glo x => x
  | .meth _ m => m
  | .prop _ f => f
  | .ali _ y => y
/-- a def: where it stands, its qualified name, its statement -/
structure DefA where
  at_ : At
  qual : Str
  st : Stmt
def DefA.obs (K : PySem.W.Frag) (d : DefA) : He.FnV := match K.lookup (d.at_.ad K) with
  | some ⟨_, _, .func fd, _⟩ => some (fd.name, fd.qualname, fd.params, fd.body, fd.scope, fd.globals, fd.closure, fd.defaults, fd.builtins)
  | _ => none
def DefA.val (d : DefA) : He.FnV := some (d.at_.name, d.qual, defArgs d.st, .stmts (defBody d.st), defScope d.st, mainGlobals, [], .none, builtinsNs)
def DefA.ok (K : PySem.W.Frag) (d : DefA) : Bool := PySem.W.keepIn K (.ref (d.at_.ad K)) && (match K.lookup (d.at_.ad K) with
  | some ⟨_, _, .func fd, _⟩ => PySem.W.codeIn K fd.code d.qual
  | _ => false)
theorem DefA.fun_ {K : PySem.W.Frag} {d : DefA} (e : d.obs K = d.val) (c : d.ok K = true) : ∃ fd, Fun K d.at_.name d.qual d.st (d.at_.ad K) fd := by
  obtain ⟨kp, c2⟩ := He.ba c
  unfold DefA.obs at e
  cases q : K.lookup (d.at_.ad K) with
  | none =>
    rw [q] at c2
    cases c2
  | some o =>
    obtain ⟨oc, od, dt, osl⟩ := o
    rw [q] at c2 e
    cases dt with
    | func fd =>
      obtain ⟨n1, n2, n3, n4, n5, n6, n7, n8, n9, n10, n11, n12, n13, n14, n15⟩ := fd
      have e2 : (some (n1, n2, n3, n4, n5, n6, n7, n8, n15) : He.FnV) = some (d.at_.name, d.qual, defArgs d.st, .stmts (defBody d.st), defScope d.st, mainGlobals, [], .none, builtinsNs) := e
      simp only [Option.some.injEq, Prod.mk.injEq] at e2
      obtain ⟨h1, h2, h3, h4, h5, h6, h7, h8, h9⟩ := e2
      subst h1 h2 h3 h4 h5 h6 h7 h8 h9
      exact ⟨_, fun_mk q c2 kp⟩
    | _ => cases c2
def propB (C f : Str) (K : PySem.W.Frag) : Bool := He.eqO (PySem.W.findIn K (.ref (He.ga K C)) f) (some (some (.ref (propA K (He.ga K C) f)))) && (He.eqO (PySem.W.specialIn K (.ref (propA K (He.ga K C) f)) "__get__") (some (some (.builtin "property.__get__"))) &&
  (decide (PySem.W.takesIn K (.ref (propA K (He.ga K C) f)) = some true) && (match PySem.W.recIn K (propA K (He.ga K C) f) "property" with
    | some (.ref _ :: _) => true
    | _ => false)))
theorem propB_ok {C f : Str} {K : PySem.W.Frag} (h : propB C f K = true) : PropOf K (He.ga K C) f (propA K (He.ga K C) f) ((At.prop C f).ad K) := by
  obtain ⟨h1, h⟩ := He.ba h
  obtain ⟨h2, h⟩ := He.ba h
  obtain ⟨h3, h4⟩ := He.ba h
  refine ⟨He.eqO_ok h1, He.eqO_ok h2, of_decide_eq_true h3, ?_⟩
  show ∃ rest, PySem.W.recIn K (propA K (He.ga K C) f) "property" = some (.ref (getA K (propA K (He.ga K C) f)) :: rest)
  unfold getA
  split at h4
  · rename_i g rest e
    rw [e]
    exact ⟨rest, rfl⟩
  · cases h4
/-- what is looked at: the globals named, their codes, the classes' dicts and bases, the methods and getters named, and their codes -/
def refsS (o : Obj) : List Addr := match o.data with
  | .func fd => He.refV fd.code
  | .cls cd => cd.ns :: cd.mro.flatMap He.refV
  | _ => []
def behind (g : Addr → Option Obj) (as : List Addr) : List Addr := as.flatMap fun a => match g a with
  | some o => refsS o
  | none => []
/-- forced: each address a numeral -/
def forced : List Addr → (List Addr → List Addr) → List Addr
  | [], k => k []
  | 0 :: r, k => forced r fun r => k (0 :: r)
  | (n + 1) :: r, k => forced r fun r => k ((n + 1) :: r)
structure Names where
  gl : List Str
  me : List (Str × Str)
  pr : List (Str × Str)
def asS (N : Names) (g : Addr → Option Obj) : List Addr :=
  forced (N.gl.map (He.ga (He.frG g [mainGlobals]))) fun a1 => forced (behind g a1) fun a2 =>
  forced (N.me.map fun p => He.ma (He.frG g (mainGlobals :: (a1 ++ a2))) (He.ga (He.frG g [mainGlobals]) p.1) p.2) fun a3 =>
  forced (N.pr.map fun p => propA (He.frG g (mainGlobals :: (a1 ++ a2))) (He.ga (He.frG g [mainGlobals]) p.1) p.2) fun a4 =>
  forced (a4.map fun p => getA (He.frG g [p]) p) fun a5 => forced (behind g (a3 ++ a5)) fun a6 => mainGlobals :: cStatics :: (a1 ++ (a2 ++ (a3 ++ (a4 ++ (a5 ++ a6)))))
abbrev AlA : Type := Bool × List He.FnV
def obsA (fa : List He.Fa) (ex : List (PySem.W.Frag → Bool)) (fn : List DefA) (K : PySem.W.Frag) : AlA := ((fa.all fun f => f.ok K) && ((ex.all fun f => f K) && fn.all fun d => d.ok K), fn.map fun d => d.obs K)
def valA (fn : List DefA) : AlA := (true, fn.map DefA.val)
def SaysA (fa : List He.Fa) (ex : List (PySem.W.Frag → Bool)) (fn : List DefA) (K : PySem.W.Frag) : Prop := obsA fa ex fn K = valA fn
def obsAG (n : Names) (fa : List He.Fa) (ex : List (PySem.W.Frag → Bool)) (fn : List DefA) (g : Addr → Option Obj) : AlA := obsA fa ex fn (He.frG g (asS n g))
def hookA (n : Names) (fa : List He.Fa) (ex : List (PySem.W.Frag → Bool)) (fn : List DefA) : PySem.W.Hook where
  α := AlA
  obs := fun s => obsAG n fa ex fn s.heap.get?
  val := fun _ => valA fn
  says := fun _ h => ∃ K : PySem.W.Frag, K.In h ∧ SaysA fa ex fn K
  of := fun _ _ e => ⟨_, He.frG_in, e⟩
  keeps := fun _ _ _ ⟨K, hK, c⟩ k => ⟨K, PySem.W.Frag.In.keeps hK k, c⟩
theorem obsAG_eq {n : Names} {fa : List He.Fa} {ex : List (PySem.W.Frag → Bool)} {fn : List DefA} {g : Addr → Option Obj} {s : Shared} (h : ∀ a, g a = s.heap.get? a) : obsAG n fa ex fn g = (hookA n fa ex fn).obs s := by
  have e : g = s.heap.get? := funext h
  rw [e] <;> rfl
section
variable {fa : List He.Fa} {ex : List (PySem.W.Frag → Bool)} {fn : List DefA} {K : PySem.W.Frag}
theorem SaysA.all (c : SaysA fa ex fn K) : (fa.all fun f => f.ok K) = true ∧ (ex.all fun f => f K) = true ∧ (fn.all fun d => d.ok K) = true := by
  obtain ⟨c1, c2⟩ := He.ba (show ((fa.all fun f => f.ok K) && ((ex.all fun f => f K) && fn.all fun d => d.ok K)) = true from congrArg (fun z : AlA => z.1) c)
  exact ⟨c1, He.ba c2⟩
theorem SaysA.fact (c : SaysA fa ex fn K) (i : Nat) {f : He.Fa} (h : fa[i]? = some f := by rfl) : f.ok K = true := List.all_eq_true.mp c.all.1 f (List.mem_of_getElem? h)
theorem SaysA.ex_ (c : SaysA fa ex fn K) (i : Nat) {f : PySem.W.Frag → Bool} (h : ex[i]? = some f := by rfl) : f K = true := List.all_eq_true.mp c.all.2.1 f (List.mem_of_getElem? h)
theorem SaysA.def_ (c : SaysA fa ex fn K) (i : Nat) {d : DefA} (h : fn[i]? = some d := by rfl) : ∃ fd, Fun K d.at_.name d.qual d.st (d.at_.ad K) fd := by
  have e : fn.map (fun d => d.obs K) = fn.map DefA.val := congrArg (fun z : AlA => z.2) c
  have e2 : (fn.map fun d => d.obs K)[i]? = (fn.map DefA.val)[i]? := by rw [e]
  rw [List.getElem?_map, List.getElem?_map, h] at e2
  exact DefA.fun_ (Option.some.inj e2) (List.all_eq_true.mp c.all.2.2 d (List.mem_of_getElem? h))
end
/-- the end of a law, over such a head -/
theorem walk_deepE {l : PySem.W.OpenLaw} {n k : Nat} {q : Program} {loose : List Str} {XP : (Str → Option Value) → Heap → Prop} {YP : World → Heap → Prop} {d : DefRec} {S : DSp} {x : Str}
    (hn : l.most = some n) (hn2 : n ≤ sizeLine ∧ k ≤ 60) (hdf : d.params.defaults = [])
    (F : ∀ (w : World) (mg : Str → Option Value) (fa : Addr) (h : Heap), YP w h → h.Ns mainGlobals mg → mg d.name = some (.ref fa) →
      ∃ (K : PySem.W.Frag) (fd : FuncData), K.In h ∧ (∀ (s : Shared) (u : Value), BindsTo s fd ⟨[u], []⟩ [(x, u)]) ∧ ∀ base : Heap, K.In base → base.Ns mainGlobals mg → FnOk l.prog w K mg base (L2.CX l.prog w) k fa fd [x] (spOf K S))
    (hsp : ∀ ns : List Int, ns.length ≤ n → S [.scr ns] [] (fun d _ => d = .bl true) fun _ _ => False) : PySem.W.WalkO q loose XP YP l.row.toRowW d [] (fun f vs => PySem.call f vs) := by
  have hr : Room 60 callerA := ⟨rfl, by decide, by decide⟩
  refine Att.attach_call hn hdf fun w s₀ s₁ mg mb fa o pm cd doc a vs ns G Y ho hd hcd hmg hobj hints hlen hg => ?_
  obtain ⟨K, fd, KX, hb, hF⟩ := F w mg fa _ Y G.T.g hmg
  refine law_call KX G.T.g G.T.b G.T.builtins G.T.nolimit hg hobj hints (Nat.le_trans hlen hn2.1) (hr.mono hn2.2) hF hb (fun H hO hS => ?_) fun H e s' h => ?_
  · refine ⟨⟨H, H, [], []⟩, [.scr ns], [], fun d _ => d = .bl true, fun _ _ => False, rfl, ⟨Same.refl _, rfl, List.nodup_nil, fun i a c h => by simp at h, fun a h => (by cases h), fun i j a b h => by simp at h, fun b h => (by cases h)⟩, .cons (.scr hS) .nil, hsp ns hlen, ?_, fun _ _ _ _ _ _ _ _ z => z.elim⟩
    rintro n' v d μ' _ _ r rfl
    cases r; rfl
  · obtain ⟨_, _, _, _, _, _, _, _, _, _, _, _, z⟩ := h
    exact z
end DV
/-! Own exceptions: their __init__, raise, try with several clauses (over the hand layer). -/
namespace DV
open PySem PySem.Spec PyProof.Rows L2
/-- the base of the program's errors: an own class whose __init__ is ValueError's -/
structure BaseX (K : PySem.W.Frag) (B : Addr) : Prop where
  rd : PySem.W.readsIn K B (.type "type") = true
  ga : PySem.W.specialIn K (.ref B) "__getattribute__" = some (some (.builtin "type.__getattribute__"))
  fc : PySem.W.findCls K (.ref B) (.type "type") "__init__" = some (.val (.builtin "ValueError.__init__"))
section
variable {X : Cx} {e o : Expr} {es : List Expr} {ta : TA} {to te : TE} {p1 p2 p pos : Pos} {B C : Addr} {f : Str}
theorem pe_baseInit {pl : Sem Bool} {x : Str} (b : BaseX X.K B) (hg : Gl X x) (hm : X.mg x = some (.ref B)) (hdb : (x == ("__debug__" : Str)) = false) (ha : PA X (e :: es) ta)
    (hc : eval (.Call (.Attribute (.Name x p1) "__init__" p2) (e :: es) [] pos) X.env = (do let ov ← eval (.Name x p1) X.env; standAt p2.atName; let (f, first) ← holding [ov] (getMethod ov "__init__" pl); callWith pos f first (backTo pos (starEach (e :: es) X.env)) (backToKw pos (keywordEach [] X.env))) := by rfl)
    (he : starEach (e :: es) X.env = (false, eval e X.env) :: starEach es X.env := by rfl) (hpl : (backTo pos (starEach es X.env)).any (·.1) = false := by rfl) :
    PE X (.Call (.Attribute (.Name x p1) "__init__" p2) (e :: es) [] pos) (tVeI X.K ta) := ⟨fun pins s σ H Q I h => by
  refine PySem.W.methodCall_KW (ld_glob I hg hm ?_ hdb) hc
  refine PySem.W.method_cls I.kIn b.ga (PySem.W.cls_value I.kIn b.rd b.fc rfl ?_)
  show wpAny _ _ (callWith pos (Value.builtin "ValueError.__init__") [] _ []) _ _ _
  refine PyProof.Rows.callWith_method1 (thn (ha.run pos pins _ σ H _ (I.tok _) h) ?_) he hpl
  rintro us s1 ⟨vs, H1, I1, r1, a, C, ws, rfl, hl, T, ea, q⟩
  cases r1 with
  | cons ra rr =>
    cases ra
    refine oinit_ok T I1 ea ?_ fun s' J => ⟨.non, H1, J, rfl, q⟩
    have := Paired.length rr
    rw [← this, sizeLine_eq]; omega⟩
/-- what __init__ of an error with one field does -/
def spI1 (C : Addr) (f : Str) : Sp := fun vs H Q _ => ∃ a y, vs = [.ref a, y] ∧ H a = some (exo a C none) ∧ ∀ dx, H dx = none → dx ≠ a → Q .non (upd (upd H dx (exd dx [(f, y)])) a (exo a C (some dx)))
end
def tI1 (K : PySem.W.Frag) (m f : Str) : TS := tSeq (L2.tDrop (tVeI K (tCons (tVar 0) (tCons (tC (.str m)) tNil)))) (tOst K f (tVar 0) (tVar 1))
section
variable {P : Program} {w : World} {K : PySem.W.Frag} {mg : Str → Option Value} {base : Heap} {C : Addr} {m f : Str} {fI : Addr} {fd : FuncData} {st : Stmt} {x qual n1 n2 : Str}
theorem ok_I1 (F : Fun K x qual st fI fd) (Sc : FnScope [n1, n2] [n1, n2] (defScope st)) (T : OexC K C) (hno : PySem.W.findIn K (.ref C) f = some none)
    (hb : ∀ (cdv : Value) (A : Around) (outer : List Env) (s : Shared) (H : Hp) (E : XK), PSs (cxOf CX0 P w K mg base [n1, n2] qual (defScope st) fI cdv A outer s H E).nox (defBody st) (tI1 K m f)) : FnOk P w K mg base CX0 1 fI fd [n1, n2] (spI1 C f) := by
  refine F.ok Sc (fun vs H Q E h => ?_) (fun cdv A outer s H vs Q E hr h => ⟨_, hb cdv A outer s H E, ?_⟩)
  · obtain ⟨a, y, rfl, _⟩ := h; rfl
  · obtain ⟨a, y, rfl, ha, q⟩ := h
    exact ⟨.ref a, rfl, a, C, [.str m], rfl, by simp, T, ha, y, rfl, .ref a, rfl, a, C, rfl, T, hno, .inl ⟨ha, fun dx h1 h2 => q dx h1 h2⟩⟩
end
/-! ### the error without a field: raise C() -/
end DV
/-! try with several clauses, each with a name or without. -/
namespace DV
open PySem PySem.Spec PyProof.Rows L2
abbrev Clause := Value × Option Nat × (Addr → Value → Option Addr → TS)
/-- the ends of a suite whose name goes -/
def goEnds (i : Nat) (D : Ends) : Ends := { nx := fun σ H => D.nx (σ.set i none) H, rt := D.rt, bk := fun σ H => D.bk (σ.set i none) H, ct := fun σ H => D.ct (σ.set i none) H }
def inClause (o : Option Nat) (ts : TS) (D : Ends) (a : Addr) (σ : L2.St) (H : Hp) : Prop := match o with
  | none => ts D σ H
  | some i => ts (goEnds i D) (σ.set i (some (.ref a))) H
def wMs (K : PySem.W.Frag) (Wo : WX) (D : Ends) : List Clause → WX
  | [] => Wo
  | (c, o, ts) :: r => fun cls d σ H => ∃ b, PySem.W.exmOne K cls c = some b ∧ (b = true → ∀ a, H a = none → inClause o (ts a cls d) D a σ H) ∧ (b = false → wMs K Wo D r cls d σ H)
inductive MsOk (X : Cx) : List ExceptHandler → List Clause → Prop
  | nil : MsOk X [] []
  | plain {x : Str} {c : Value} {ts : Addr → Value → Option Addr → TS} {b0 : Stmt} {su : List Stmt} {np hp : Pos} {hs : List ExceptHandler} {l : List Clause} (hc : L2.Names X x c)
      (hsu : ∀ (a : Addr) (oe : Obj) (cls : Value) (d : Option Addr) (pn : List (Addr × Obj)), Zc cls d oe → (∃ vs, oe.data = .fields vs) → PSs (X.suite a ((a, oe) :: pn)) (b0 :: su) (ts a cls d)) (r : MsOk X hs l) :
      MsOk X (.ExceptHandler (some (.Name x np)) none (b0 :: su) hp :: hs) ((c, none, ts) :: l)
  | named {x n : Str} {i : Nat} {c : Value} {ts : Addr → Value → Option Addr → TS} {b0 : Stmt} {su : List Stmt} {np hp : Pos} {hs : List ExceptHandler} {l : List Clause} (hc : L2.Names X x c) (hi : X.N[i]? = some n) (hln : X.env.kindOf n = some .local)
      (hsu : ∀ (a : Addr) (oe : Obj) (cls : Value) (d : Option Addr) (pn : List (Addr × Obj)), Zc cls d oe → (∃ vs, oe.data = .fields vs) → PSs (X.suite a ((a, oe) :: pn)) (b0 :: su) (ts a cls d)) (r : MsOk X hs l) :
      MsOk X (.ExceptHandler (some (.Name x np)) (some n) (b0 :: su) hp :: hs) ((c, some i, ts) :: l)
section
variable {X : Cx} {body : List Stmt} {h0 : ExceptHandler} {hds : List ExceptHandler} {l : List Clause} {pos : Pos} {tb : WX → TS} {Wo : WX}
theorem ps_try_ms (hs : X.stack = X.env :: X.outer) (hf : X.env.frame = some X.env.locals) (hN : X.N.Nodup) (tk : Takes X Wo)
    (hb : ∀ (W : WX) (pn : List (Addr × Obj)) (xe : Value → Shared → Prop), Takes (X.tr pn xe) W → PassesOwn (model X.prog X.w) X.A X.env xe → PSs (X.tr pn xe) body (tb W)) (hh : MsOk X (h0 :: hds) l) :
    PS X (.Try body (h0 :: hds) [] [] pos) (fun D σ H => tb (wMs X.K Wo D l) D σ H) := ⟨fun pins s σ H D I h => by
  have ok := I.ok
  have frames : X.A.frames = some (X.env :: X.outer) := by rw [ok.frames, hs]
  have bodyRun := fun xe tk' po => (hb (wMs X.K Wo D l) (X.pn ++ pins) xe tk' po).run [] s σ H D (I.toTry _) h
  refine wpAny_Try_except (wpAny_mono (bodyRun (fun e s₁ => wpAny (model X.prog X.w) X.A (noteFrame e X.env) (fun _ s₂ => wpAny (model X.prog X.w) X.A (setFlight e none) (fun _ s₃ => wpAny (model X.prog X.w) X.A (handleBy e X.env (h0 :: hds)) (L2.SP X pins D) X.xe s₃) X.xe s₂) X.xe s₁)
    (fun u s' xx => ?_) PassesOwn.looking) (fun fl s1 sp => ?_) fun _ _ z => z)
  · obtain ⟨a, B, sI, _, σ1, H1, cls, d, rfl, J1, nb, up, sky, na, os, ag, want⟩ := xx
    have J : Inv X pins σ1 H1 sI := J1.ofTry ok
    rw [hs] at sky
    show wpAny (model X.prog X.w) X.A (noteFrame (.ref a) X.env) _ _ _
    refine Sky.land Zc.steady frames hf sky fun h3 fl3 up3 => ?_
    have J3 : Inv X pins σ1 H1 { s' with heap := h3 } := J.landed nb fl3.1 (up.trans up3) os ag
    obtain ⟨oe3, vs3, he3, hz3, hd3⟩ := fl3.there
    have notIn : a ∉ frs (X.env :: X.outer) := fun hm => by
      obtain ⟨_, o', e', hnf⟩ := fl3.2.2.1.mem hm
      rw [he3] at e'; cases e'
      exact hnf _ hd3
    have nL : a ≠ X.env.locals := fun z => notIn (List.mem_filterMap.mpr ⟨X.env, List.mem_cons_self, by rw [hf, z]⟩)
    have nF : a ∉ X.fs := fun hm => by
      obtain ⟨e, he, q⟩ := List.mem_filterMap.mp hm
      exact notIn (List.mem_filterMap.mpr ⟨e, List.mem_cons_of_mem _ he, q⟩)
    have S3 := J3.suite he3 hd3 na nL nF
    have look : PySem.W.Looks (model X.prog X.w) h3 (typeOf (.ref a)) cls := fun A Q E s k q => wpAny_typeOf_ref (k _ _ he3) (by rw [hz3.1]; exact q)
    have name : ∀ {x : Str} {np : Pos} {c : Value} {Q : Value → Shared → Prop} {E : Value → Shared → Prop}, L2.Names X x c → Q c { s' with heap := h3 } → wpAny (model X.prog X.w) (X.A.mark (some (.ref a))) (eval (.Name x np) X.env) Q E { s' with heap := h3 } := fun hc q => by
      obtain ⟨hg, hdbg, hm⟩ := hc
      rcases hm with hm | ⟨hm, hv, hnn⟩
      · exact ld_glob (X := X.suite a ((a, oe3) :: (X.pn ++ pins))) S3 hg hm q hdbg
      · exact ld_blt (X := X.suite a ((a, oe3) :: (X.pn ++ pins))) S3 hg hm hv q hnn hdbg
    have each : ∀ {hs' : List ExceptHandler} {l' : List Clause}, MsOk X hs' l' → wMs X.K Wo D l' cls d σ1 H1 → wpAny (model X.prog X.w) X.A (handleBy (.ref a) X.env hs') (L2.SP X pins D) X.xe { s' with heap := h3 } := by
      intro hs' l' m
      induction m with
      | nil =>
        intro w
        refine wpAny_handleBy_nil ?_
        obtain ⟨_, _, _, oe, vs, T, oT, ts', he, hz, hd, h1, hr⟩ := id fl3
        have out : wpAny (model X.prog X.w) X.A (setFlight (.ref a) X.env.frame) (fun _ s4 => wpAny (model X.prog X.w) X.A (throw (.ref a) : Sem Flow) (L2.SP X pins D) X.xe s4) X.xe { s' with heap := h3 } := by
          rw [hf]
          refine HandSPX.setFlight_upZ fl3 fun h4 hh4 up4 => wpAny_throw (tk _ _ ?_)
          refine ⟨a, B, sI, pins, σ1, H1, cls, d, rfl, J, nb, (up.trans up3).trans up4, .inr (.inr ?_), na, os, ag, w⟩
          rw [hs]; exact hh4
        unfold PySem.passOn
        refine wpAny_bind (wpAny_field he hd h1 ?_)
        rw [if_neg (show ¬ ((Value.ref T == Value.none) = true) by simp)]
        first
          | exact wpAny_bind (wpAny_pure (wpAny_bind out))
          | exact wpAny_bind out
      | plain hc hsu r ih =>
        rintro ⟨b, hb1, yes, no⟩
        refine wpAny_handleBy_cons (codeAny_handlers_test (name hc ?_)) (by intro q; cases q)
        refine (PySem.W.exm_one (M := model X.prog X.w) J3.kIn look hb1).here ?_
        cases b with
        | false => exact ih (no rfl)
        | true =>
          refine codeAny_handlers_suite (HandSPX.lands_againZ fl3 fun h4 fl4 up4 => ?_)
          have J4 : Inv X pins σ1 H1 { s' with heap := h4 } := J.landed nb fl4.1 ((up.trans up3).trans up4) os ag
          obtain ⟨oe4, vs4, he4, hz4, hd4⟩ := fl4.there
          refine wpAny_mono ((hsu a oe4 cls d (X.pn ++ pins) hz4 ⟨_, hd4⟩).run [] _ _ H1 _ (J4.suite he4 hd4 na nL nF) (yes rfl a na)) (fun f s6 sp => ?_) fun _ _ z => z.elim
          match f, sp with
          | .next, ⟨σ6, H6, S6, q6⟩ => exact ⟨_, _, S6.unsuite ok, q6⟩
          | .brk, ⟨σ6, H6, S6, q6⟩ => exact ⟨_, _, S6.unsuite ok, q6⟩
          | .cont, ⟨σ6, H6, S6, q6⟩ => exact ⟨_, _, S6.unsuite ok, q6⟩
          | .ret u, ⟨v6, σ6, H6, S6, r6, q6⟩ => exact ⟨_, _, _, S6.unsuite ok, r6, q6⟩
      | @named x n i c ts b0 su np hp hs2 l2 hc hi hln hsu r ih =>
        rintro ⟨b, hb1, yes, no⟩
        refine wpAny_handleBy_cons (codeAny_handlers_test (name hc ?_)) (by intro q; cases q)
        refine (PySem.W.exm_one (M := model X.prog X.w) J3.kIn look hb1).here ?_
        cases b with
        | false => exact ih (no rfl)
        | true =>
          refine codeAny_handlers_suite_as (HandSPX.lands_againZ fl3 fun h4 fl4 up4 => ?_)
          have J4 : Inv X pins σ1 H1 { s' with heap := h4 } := J.landed nb fl4.1 ((up.trans up3).trans up4) os ag
          obtain ⟨oe4, vs4, he4, hz4, hd4⟩ := fl4.there
          refine store_ok (X := X.suite a ((a, oe4) :: (X.pn ++ pins))) (v := .ref a) (J4.suite he4 hd4 na nL nF) hN hi (.inl hln) rfl (fun s5 S5 => ?_) (.inr hln)
          refine wpAny_mono ((hsu a oe4 cls d (X.pn ++ pins) hz4 ⟨_, hd4⟩).run [] s5 _ H1 _ S5 (yes rfl a na)) (fun f s6 sp => ?_) fun _ _ z => z.elim
          have gone : ∀ {σ6 : L2.St} {H6 : Hp} {R : Shared → Prop}, Inv (X.suite a ((a, oe4) :: (X.pn ++ pins))) [] σ6 H6 s6 → (∀ s7, Inv X pins (σ6.set i none) H6 s7 → R s7) → wpAny (model X.prog X.w) X.A (do bindName X.env n .none; unbindBehindTheSuite X.env n hp) (fun _ s7 => R s7) X.xe s6 := fun S6 hq =>
            gone_ok (S6.unsuite ok) hN hi hln hq
          match f, sp with
          | .next, ⟨σ6, H6, S6, q6⟩ => exact gone S6 fun s7 J7 => ⟨_, _, J7, q6⟩
          | .brk, ⟨σ6, H6, S6, q6⟩ => exact gone S6 fun s7 J7 => ⟨_, _, J7, q6⟩
          | .cont, ⟨σ6, H6, S6, q6⟩ => exact gone S6 fun s7 J7 => ⟨_, _, J7, q6⟩
          | .ret u, ⟨v6, σ6, H6, S6, r6, q6⟩ => exact gone S6 fun s7 J7 => ⟨_, _, _, J7, r6, q6⟩
    exact each hh want
  · match fl, sp with
    | .next, ⟨σ', H', J', q⟩ => exact wpAny_execs_nil ⟨σ', H', J'.ofTry ok, q⟩
    | .brk, ⟨σ', H', J', q⟩ => exact ⟨σ', H', J'.ofTry ok, q⟩
    | .cont, ⟨σ', H', J', q⟩ => exact ⟨σ', H', J'.ofTry ok, q⟩
    | .ret u, ⟨v, σ', H', J', r, q⟩ => exact ⟨v, σ', H', J'.ofTry ok, r, q⟩⟩
end
end DV
/-! raise, try and e.f at the deep level. -/
namespace DV
open PySem PySem.Spec PyProof.Rows L2
abbrev xa (K : PySem.W.Frag) (k : EK) : Addr := He.ga K k.nm
/-! ### facts of the written part, as Booleans -/
def oexB (K : PySem.W.Frag) (C : Addr) : Bool := (match K.lookup C with
  | some ⟨.type "type", _, .cls cd, sl⟩ => (match cd.mro, sl.toList with
    | .ref C' :: bm, [_, _, _, _, some (.builtin n), _] => C' == C && (n == "ValueError.__new__" && (!cd.hasDel && (cd.hasDict && PySem.HandSPX.refsVE bm)))
    | _, _ => false)
  | _ => false) && (He.eqO (PySem.W.findIn K (.ref C) "__setattr__") (some (some (.builtin "object.__setattr__"))) && (decide (PySem.W.subIn K (.ref C) (.type "BaseException") = some true) && (decide (PySem.W.typeIn K (.ref C) = some (.type "type")) && PySem.W.keepIn K (.ref C))))
theorem oexB_ok {K : PySem.W.Frag} {C : Addr} (h : oexB K C = true) : OexC K C := by
  obtain ⟨q, h⟩ := He.ba h
  obtain ⟨h1, h⟩ := He.ba h
  obtain ⟨h2, h⟩ := He.ba h
  obtain ⟨h3, h4⟩ := He.ba h
  refine ⟨?_, He.eqO_ok h1, of_decide_eq_true h2, of_decide_eq_true h3, h4⟩
  split at q
  · rename_i dd cd sl ho
    split at q
    · rename_i C' bm k0 k1 k2 k3 n k5 hm hs
      simp only [Bool.and_eq_true, beq_iff_eq, Bool.not_eq_true'] at q
      obtain ⟨rfl, rfl, hdel, hdic, ht⟩ := q
      obtain ⟨nm, bs, mro, ns, qn, hd, sn, sub, ab, col, del⟩ := cd
      dsimp only at hm hdel hdic
      subst hm hdel hdic
      have hsl : sl = #[k0, k1, k2, k3, some (.builtin "ValueError.__new__"), k5] := by
        obtain ⟨l⟩ := sl
        simp only at hs
        rw [hs]
      subst hsl
      exact ⟨nm, qn, ns, bs, bm, sn, sub, ab, col, dd, k0, k1, k2, k3, k5, ho, ht⟩
    · cases q
  · cases q
/-- an error class with its __init__ -/
def errB (k : EK) (K : PySem.W.Frag) : Bool := oexB K (xa K k) && (He.eqO (PySem.W.findIn K (.ref (xa K k)) "__init__") (some (some (.ref (He.ma K (xa K k) "__init__")))) && decide (PySem.W.typeIn K (.ref (He.ma K (xa K k) "__init__")) = some (.type "function")))
structure ErrC (K : PySem.W.Frag) (k : EK) (fI : Addr) : Prop where
  T : OexC K (xa K k)
  iC : PySem.W.findIn K (.ref (xa K k)) "__init__" = some (some (.ref fI))
  tI : PySem.W.typeIn K (.ref fI) = some (.type "function")
theorem errB_ok {K : PySem.W.Frag} {k : EK} (h : errB k K = true) : ErrC K k (He.ma K (xa K k) "__init__") := by
  obtain ⟨h1, h⟩ := He.ba h
  obtain ⟨h2, h3⟩ := He.ba h
  exact ⟨oexB_ok h1, He.eqO_ok h2, of_decide_eq_true h3⟩
/-- the base of all errors -/
def baseB (K : PySem.W.Frag) : Bool := PySem.W.readsIn K (He.ga K "ChooserError") (.type "type") && (decide (PySem.W.specialIn K (.ref (He.ga K "ChooserError")) "__getattribute__" = some (some (.builtin "type.__getattribute__"))) && (match PySem.W.findCls K (.ref (He.ga K "ChooserError")) (.type "type") "__init__" with | some (.val (.builtin n)) => n == "ValueError.__init__" | _ => false))
theorem baseB_ok {K : PySem.W.Frag} (h : baseB K = true) : BaseX K (He.ga K "ChooserError") := by
  obtain ⟨h1, h⟩ := He.ba h
  obtain ⟨h2, h3⟩ := He.ba h
  refine ⟨h1, of_decide_eq_true h2, ?_⟩
  split at h3
  · rename_i n e; rw [e, beq_iff_eq.mp h3]
  · cases h3
/-- which clause catches which error -/
def emB (ks : List EK) (K : PySem.W.Frag) : Bool := ks.all fun j => ks.all fun k => decide (PySem.W.exmOne K (.ref (xa K j)) (.ref (xa K k)) = some (decide (j = k)))
def EmOk (ks : List EK) (K : PySem.W.Frag) : Prop := ∀ j ∈ ks, ∀ k ∈ ks, PySem.W.exmOne K (.ref (xa K j)) (.ref (xa K k)) = some (decide (j = k))
theorem emB_ok {ks : List EK} {K : PySem.W.Frag} (h : emB ks K = true) : EmOk ks K := fun j hj k hk => of_decide_eq_true (List.all_eq_true.mp (List.all_eq_true.mp h j hj) k hk)
/-- e.f of an error -/
def xfldB (k : EK) (f : Str) (K : PySem.W.Frag) : Bool := xfB K (xa K k) && He.eqO (PySem.W.findIn K (.ref (xa K k)) f) (some none)
theorem xfldB_ok {k : EK} {f : Str} {K : PySem.W.Frag} (h : xfldB k f K = true) : XfC K (xa K k) ∧ PySem.W.findIn K (.ref (xa K k)) f = some none := by
  obtain ⟨h1, h2⟩ := He.ba h
  exact ⟨xfB_ok h1, He.eqO_ok h2⟩
/-! ### raise -/
def HasE (P : Program) (w : World) (K : PySem.W.Frag) (mg : Str → Option Value) (base : Heap) (k : EK) (f : Str) : Prop :=
  ∃ fI fd n1 n2, mg k.nm = some (.ref (xa K k)) ∧ ErrC K k fI ∧ Binds K fd [n1, n2] [] ∧ FnOk P w K mg base CX0 1 fI fd [n1, n2] (spI1 (xa K k) f)
def dRaise (k : EK) (f : Str) (fa : DTE) : DTS := fun Dd Γ μ => fa Γ μ (fun d μ1 => Dd.ex ⟨k, [(f, d)]⟩ Γ μ1) (fun x μ1 => Dd.ex x Γ μ1)
def dRaise0 (k : EK) : DTS := fun Dd Γ μ => Dd.ex ⟨k, []⟩ Γ μ
section
variable {X : Cx} {W : WX} {e : Expr} {x : Str} {p pos pos2 : Pos} {fa : DTE} {k : EK} {f : Str}
theorem ds_raise (h : HasE X.prog X.w X.K X.mg X.base k f) (hr : Room 2 X.A) (hg : Gl X x) (tk : Takes X W) (ha : DE X W e fa) (hc : X.calm = true := by rfl) (hk : x = k.nm := by rfl) (hdb : (x == ("__debug__" : Str)) = false := by decide)
    (he : starEach [e] X.env = (false, eval e X.env) :: starEach [] X.env := by rfl) (hpl : (backTo pos (starEach [] X.env)).any (·.1) = false := by rfl) : DS X W (.Raise (some (.Call (.Name x p) [e] [] pos)) none pos2) (dRaise k f fa) := by
  subst hk
  obtain ⟨fI, fd, n1, n2, hm, ⟨T, iC, tI⟩, hb, F⟩ := h
  refine PS.imp (ps_raise hc tk (pmk_oex (CX := CX0) (dvs := []) (ds := []) (k := 1) T iC tI F hr hb .nil pass0 hg hm (da_cons ha da_nil he) hdb he hpl)) fun Dn σ H ⟨A, n, Γ, μ, Dd, hH, sa, sr, gr, h, l⟩ => ?_
  subst hH
  refine liftA_go (Qd := fun ds μ1 => match ds with | [d] => Dd.ex ⟨k, [(f, d)]⟩ Γ μ1 | _ => False) (Ed := fun x μ1 => Dd.ex x Γ μ1) sr gr h (fun n1 vs ds μ1 s1 r1 p1 q1 => ?_) (fun n' cls dd x μ' s' r' e q => l.ex n' Γ σ μ' cls dd x (sa.trans s') r' (gr.step s') (e.anchor sa) q)
  match ds, q1 with
  | [d], q1 =>
    cases p1 with
    | cons rv pn =>
      cases pn
      rename_i v
      refine ⟨by simp, fun a ha => ⟨a, v, rfl, upd_same, fun dx hdx hne => ⟨rfl, dx, [(f, v)], upd_same, ?_, ?_, ?_⟩⟩⟩
      · rw [upd_ne hne]; exact upd_same
      · rw [upd_ne hne] at hdx; exact hdx
      · have hdx' : n1.H dx = none := by rw [upd_ne hne] at hdx; exact hdx
        have eH : upd (del (upd (upd (upd n1.H a (exo a (xa X.K k) none)) dx (exd dx [(f, v)])) a (exo a (xa X.K k) (some dx))) a) dx (.xd [(f, v)]) = (n1.more dx (.xd [(f, v)])).H := by
          funext b
          show _ = upd n1.H dx _ b
          by_cases hb : b = dx
          · subst hb; rw [upd_same, upd_same]
          · rw [upd_ne hb, upd_ne hb]
            by_cases hba : b = a
            · subst hba; rw [del_same]; exact ha.symm
            · rw [del_ne hba, upd_ne hba, upd_ne hb, upd_ne hba]
        rw [eH]
        have st : Step n1 (n1.more dx (.xd [(f, v)])) := Step.more hdx'
        refine l.ex _ Γ σ μ1 _ _ _ ((sa.trans s1).trans st) (r1.more hdx') ((gr.step s1).step st) ⟨rfl, .inr ⟨dx, [(f, v)], rfl, (sa.trans s1).dom dx hdx', ⟨r1.hb hdx', fun z => r1.alh dx z hdx', fun z => (r1.phb dx z).2.2 hdx'⟩, upd_same, ?_, ?_⟩⟩ q1
        · intro g
          show List.lookup g [(f, v)] = none ↔ List.lookup g [(f, d)] = none
          simp only [List.lookup_cons, List.lookup_nil]
          cases g == f <;> simp
        · intro g u hu
          have hu : List.lookup g [(f, v)] = some u := hu
          show ∃ d', List.lookup g [(f, d)] = some d' ∧ _
          rw [List.lookup_cons] at hu ⊢
          split at hu
          · cases hu; exact ⟨d, rfl, rv⟩
          · cases hu
end
/-! ### try -/
structure DCl where
  k : EK
  o : Option Nat
  su : Addr → Addr → Nat → DTS
def DCl.cl (K : PySem.W.Frag) (c : DCl) : Clause := (.ref (xa K c.k), c.o, fun a cls d => match c.o with
  | none => liftS K W0 (c.su 0 0 0)
  | some _ => fun Dn σ H => ∃ dd l, cls = .ref (xa K c.k) ∧ d = some dd ∧ liftS K W0 (c.su a dd l) Dn σ H)
def dGo (i : Nat) (D : DEnds) : DEnds := { nx := fun Γ μ => D.nx (Γ.set i none) μ, rt := D.rt, bk := fun Γ μ => D.bk (Γ.set i none) μ, ct := fun Γ μ => D.ct (Γ.set i none) μ, ex := fun _ _ _ => False }
def dIn (c : DCl) (Dd : DEnds) (x : Exn) (Γ : Gam) (μ : Mu) : Prop := match c.o with
  | none => c.su 0 0 0 { Dd with ex := fun _ _ _ => False } Γ μ
  | some i => x.fs ≠ [] ∧ ∀ a dd, c.su a dd μ.length (dGo i Dd) (Γ.set i (some (.cls a))) (μ ++ [.exc dd x.fs])
def dHandle (ks : List EK) : List DCl → DEnds → Exn → Gam → Mu → Prop
  | [], Dd, x, Γ, μ => Dd.ex x Γ μ
  | c :: r, Dd, x, Γ, μ => x.k ∈ ks ∧ c.k ∈ ks ∧ if x.k = c.k then dIn c Dd x Γ μ else dHandle ks r Dd x Γ μ
def dTry (ks : List EK) (Tb : DTS) (cl : List DCl) : DTS := fun Dd Γ μ => Tb { Dd with ex := dHandle ks cl Dd } Γ μ
/-- the dict of a caught error becomes a cell -/
theorem caught {K : PySem.W.Frag} {A n : Now} {μ : Mu} {dd : Addr} {us : List (Str × V)} {fs : List (Str × D)} (sa : Step A n) (sr : SR0 K n μ) (hA : A.H dd = none) (hh : n.Hb dd = none ∧ dd ∉ n.al ∧ dd ∉ n.ph) (hu : n.H dd = some (.xd us))
    (h1 : ∀ f, us.lookup f = none ↔ fs.lookup f = none) (h2 : ∀ f v, us.lookup f = some v → ∃ d, fs.lookup f = some d ∧ Rep K n.Hb n.al v d) :
    SR0 K ⟨n.Hb, n.H, n.al ++ [dd], n.ph⟩ (μ ++ [.exc dd fs]) ∧ Step A ⟨n.Hb, n.H, n.al ++ [dd], n.ph⟩ := by
  have hpre : n.al <+: n.al ++ [dd] := List.prefix_append _ _
  refine ⟨⟨sr.same, by simp [sr.len], ?_, fun i a c e1 e2 => ?_, fun b hb => ?_, fun i j x y e1 e2 => ?_, fun b hb => ?_⟩, ⟨sa.same, sa.pre.trans hpre, sa.newb, fun b hb => ?_, sa.newp, sa.keep, sa.dom⟩⟩
  · show (n.al ++ [dd]).Nodup
    rw [List.nodup_append]
    exact ⟨sr.nd, by simp, fun b hb c hc z => by rw [List.mem_singleton.mp hc] at z; exact hh.2.1 (z ▸ hb)⟩
  · have e1' : (n.al ++ [dd])[i]? = some a := e1
    by_cases hi : i < n.al.length
    · rw [List.getElem?_append_left hi] at e1'
      rw [List.getElem?_append_left (by rw [← sr.len]; exact hi)] at e2
      exact (sr.cell i a c e1' e2).grow (n' := ⟨n.Hb, n.H, n.al ++ [dd], n.ph⟩) rfl (fun z => z) (Same.refl _) hpre rfl fun _ _ => rfl
    · rw [List.getElem?_append_right (by omega)] at e1'
      rw [List.getElem?_append_right (by rw [← sr.len]; omega), ← sr.len] at e2
      have hz : i - n.al.length = 0 := by
        have := (List.getElem?_eq_some_iff.mp e1').1
        simp at this; omega
      rw [hz] at e1' e2
      simp at e1' e2
      subst e1'; subst e2
      exact ⟨hh.1, rfl, us, hu, h1, fun f v e => let ⟨d, z1, z2⟩ := h2 f v e; ⟨d, z1, z2.mono (Same.refl _) hpre⟩⟩
  · rcases List.mem_append.mp hb with z | z
    · exact sr.alh b z
    · rw [List.mem_singleton.mp z]; show n.H dd ≠ none; rw [hu]; simp
  · have q : ∀ (i : Nat) x, (μ ++ [Cell.exc dd fs])[i]? = some (.orc x) → μ[i]? = some (.orc x) := fun i x e => by
      by_cases hi : i < μ.length
      · rw [List.getElem?_append_left hi] at e; exact e
      · rw [List.getElem?_append_right (by omega)] at e
        have hz : i - μ.length = 0 := by
          have := (List.getElem?_eq_some_iff.mp e).1
          simp at this; omega
        rw [hz] at e; simp at e
    exact sr.orc1 i j x y (q i x e1) (q j y e2)
  · obtain ⟨z1, z2, z3⟩ := sr.phb b hb
    refine ⟨z1, fun z => ?_, z3⟩
    rcases List.mem_append.mp z with z | z
    · exact z2 z
    · rw [List.mem_singleton.mp z] at hb; exact hh.2.2 hb
  · rcases List.mem_append.mp hb with z | z
    · exact sa.newa b z
    · rw [List.mem_singleton.mp z]; exact .inr hA
section
variable {X : Cx} {W : WX} {body : List Stmt} {h0 : ExceptHandler} {hds : List ExceptHandler} {cl : List DCl} {ks : List EK} {pos : Pos} {Tb : DTS} {c : DCl}
theorem handle_go {A : Now} {Dd : DEnds} {Dn : Ends} {K : PySem.W.Frag} (em : EmOk ks K) (l : Links K W A Dd Dn) : ∀ (cl : List DCl) (n : Now) (Γ : Gam) (σ : L2.St) (μ : Mu) (cls : Value) (dd : Option Addr) (x : Exn), Step A n → SR0 K n μ → GR K n Γ σ → ExR K A n cls dd x → dHandle ks cl Dd x Γ μ → wMs K W Dn (cl.map (DCl.cl K)) cls dd σ n.H
  | [], n, Γ, σ, μ, cls, dd, x, sa, sr, gr, ex, h => l.ex n Γ σ μ cls dd x sa sr gr ex h
  | c :: r, n, Γ, σ, μ, cls, dd, x, sa, sr, gr, ex, h => by
    obtain ⟨m1, m2, h⟩ := h
    refine ⟨decide (x.k = c.k), by rw [ex.1]; exact em _ m1 _ m2, fun hb a na => ?_, fun hb => ?_⟩
    · rw [if_pos (of_decide_eq_true hb)] at h
      unfold dIn at h
      show inClause c.o _ Dn a σ n.H
      cases ho : c.o with
      | none =>
        rw [ho] at h
        show liftS K W0 (c.su 0 0 0) Dn σ n.H
        exact ⟨A, n, Γ, μ, { Dd with ex := fun _ _ _ => False }, rfl, sa, sr, gr, h, ⟨l.nx, l.bk, l.ct, l.rt, fun _ _ _ _ _ _ _ _ _ _ _ z => z.elim⟩⟩
      | some i =>
        rw [ho] at h
        obtain ⟨hne, h⟩ := h
        obtain ⟨ec, ex2⟩ := ex
        obtain ⟨d, us, rfl, hA, hh, hu, h1, h2⟩ := ex2.resolve_left fun z => hne z.2
        obtain ⟨s2, a2⟩ := caught sa sr hA hh hu h1 h2
        show ∃ dd l, cls = .ref (xa K c.k) ∧ some d = some dd ∧ liftS K W0 (c.su a dd l) (goEnds i Dn) (σ.set i (some (.ref a))) n.H
        refine ⟨d, μ.length, by rw [ec, of_decide_eq_true hb], rfl, A, ⟨n.Hb, n.H, n.al ++ [d], n.ph⟩, _, _, dGo i Dd, rfl, a2, s2, ?_, h a d, ?_⟩
        · have g2 : GR K ⟨n.Hb, n.H, n.al ++ [d], n.ph⟩ Γ σ := ⟨gr.len, fun j e hj => let ⟨v, z1, z2⟩ := gr.at_ j e hj; ⟨v, z1, z2.mono (Same.refl _) (List.prefix_append _ _)⟩⟩
          exact g2.set (.cls a) i
        · exact ⟨fun n' Γ' σ' μ' q1 q2 q3 q4 => l.nx n' _ _ μ' q1 q2 (q3.unset i) q4, fun n' Γ' σ' μ' q1 q2 q3 q4 => l.bk n' _ _ μ' q1 q2 (q3.unset i) q4, fun n' Γ' σ' μ' q1 q2 q3 q4 => l.ct n' _ _ μ' q1 q2 (q3.unset i) q4, l.rt, fun _ _ _ _ _ _ _ _ _ _ _ z => z.elim⟩
    · rw [if_neg (of_decide_eq_false hb)] at h
      exact handle_go em l r n Γ σ μ cls dd x sa sr gr ex h
theorem ds_try (em : EmOk ks X.K) (hs : X.stack = X.env :: X.outer) (hf : X.env.frame = some X.env.locals) (hN : X.N.Nodup) (tk : Takes X W)
    (hb : ∀ (W' : WX) (pn : List (Addr × Obj)) (xe : Value → Shared → Prop), Takes (X.tr pn xe) W' → PassesOwn (model X.prog X.w) X.A X.env xe → DSs (X.tr pn xe) W' body Tb) (hh : MsOk X (h0 :: hds) (cl.map (DCl.cl X.K))) :
    DS X W (.Try body (h0 :: hds) [] [] pos) (dTry ks Tb cl) :=
  PS.imp (ps_try_ms (tb := fun W' => liftS X.K W' Tb) hs hf hN tk hb hh) fun Dn σ H ⟨A, n, Γ, μ, Dd, hH, sa, sr, gr, h, l⟩ => by
  exact ⟨A, n, Γ, μ, { Dd with ex := dHandle ks cl Dd }, hH, sa, sr, gr, h, ⟨l.nx, l.bk, l.ct, l.rt, handle_go em l cl⟩⟩
theorem dms_nil : MsOk X [] (([] : List DCl).map (DCl.cl X.K)) := .nil
theorem dms_named {x n : Str} {i : Nat} {k : EK} {T : Addr → Addr → Nat → DTS} {b0 : Stmt} {su : List Stmt} {np hp : Pos} {hs : List ExceptHandler} {l : List DCl} (hg : Gl X x) (hm : X.mg x = some (.ref (xa X.K k)))
    (hsu : ∀ (a : Addr) (oe : Obj) (dd : Addr) (l : Nat) (pn : List (Addr × Obj)), Zc (.ref (xa X.K k)) (some dd) oe → (∃ vs, oe.data = .fields vs) → DSs (X.suite a ((a, oe) :: pn)) W0 (b0 :: su) (T a dd l)) (r : MsOk X hs (l.map (DCl.cl X.K)))
    (hi : X.N[i]? = some n := by rfl) (hln : X.env.kindOf n = some .local := by rfl) (hdb : (x == ("__debug__" : Str)) = false := by decide) :
    MsOk X (.ExceptHandler (some (.Name x np)) (some n) (b0 :: su) hp :: hs) ((⟨k, some i, T⟩ :: l : List DCl).map (DCl.cl X.K)) :=
  .named ⟨hg, hdb, .inl hm⟩ hi hln (fun a oe cls d pn hz hv => ⟨fun pins s σ H Q I q => by
    obtain ⟨dd, l, rfl, rfl, q⟩ := q
    exact (hsu a oe dd l pn hz hv).run pins s σ H Q I q⟩) r
/-- e.f in a suite -/
def dXf (a dd : Addr) (l : Nat) (f : Str) (fe : DTE) : DTE := fun Γ μ Q E => fe Γ μ (fun v μ1 => v = .cls a ∧ match μ1[l]? with
  | some (.exc d' fs) => d' = dd ∧ (match fs.lookup f with
    | some d => Q d μ1
    | none => False)
  | _ => False) E
theorem de_xf {a dd : Addr} {l : Nat} {oe : Obj} {pn : List (Addr × Obj)} {e : Expr} {fe : DTE} {f : Str} {k : EK} (h : XfC X.K (xa X.K k) ∧ PySem.W.findIn X.K (.ref (xa X.K k)) f = some none) (hz : Zc (.ref (xa X.K k)) (some dd) oe) (hf : ∃ vs, oe.data = .fields vs)
    (he : DE (X.suite a ((a, oe) :: pn)) W e fe) (hb : attributeBase e f X.env (eval e X.env) = eval e X.env := by rfl) : DE (X.suite a ((a, oe) :: pn)) W (.Attribute e f pos) (dXf a dd l f fe) :=
  PE.imp (pe_xf h.1 h.2 hz hf he hb) fun σ H Q ⟨n, Γ, μ, Qd, Ed, hH, sr, gr, h, hq, hx⟩ => by
  subst hH
  refine lift_go sr gr h (fun n1 x dx μ1 s1 r1 p1 q1 => ?_) hx
  obtain ⟨rfl, q1⟩ := q1
  cases p1
  refine ⟨rfl, rfl, ?_⟩
  split at q1
  · rename_i d' fs e1
    obtain ⟨rfl, q1⟩ := q1
    split at q1
    · rename_i d e2
      have hl : l < n1.al.length := by rw [r1.len]; exact (List.getElem?_eq_some_iff.mp e1).1
      obtain ⟨_, rfl, us, h1, h2, h3⟩ := r1.cell l n1.al[l] _ (List.getElem?_eq_getElem hl) e1
      cases eu : us.lookup f with
      | none => rw [(h2 f).mp eu] at e2; cases e2
      | some v =>
        obtain ⟨d2, z1, z2⟩ := h3 f v eu
        rw [e2] at z1; cases z1
        exact ⟨_, us, v, rfl, h1, eu, hq n1 v d μ1 s1 r1 z2 q1⟩
    · exact q1.elim
  · exact q1.elim
end
end DV
/-! Grids of words: lists of lists of texts, as data or in cells. -/
namespace DV
open PySem PySem.Spec PyProof.Rows L2
/-- a list, as data or in a cell that p allows -/
def See (p : Nat → Prop) (μ : Mu) (d : D) (xs : List D) : Prop := d = .lst xs ∨ ∃ l, d = .ref l ∧ p l ∧ μ[l]? = some (.lst xs)
section
variable {p q : Nat → Prop} {μ ext : Mu} {d : D} {xs : List D}
theorem See.lk (h : See p μ d xs) : lk μ d = .lst xs := by
  rcases h with rfl | ⟨l, rfl, _, e⟩
  · rfl
  · exact lk_cell e
theorem See.imp (h : See p μ d xs) (hp : ∀ l, p l → q l) : See q μ d xs := by
  rcases h with h | ⟨l, h1, h2, h3⟩
  · exact .inl h
  · exact .inr ⟨l, h1, hp l h2, h3⟩
theorem See.app (h : See p μ d xs) (ext : Mu) : See p (μ ++ ext) d xs := by
  rcases h with h | ⟨l, h1, h2, h3⟩
  · exact .inl h
  · exact .inr ⟨l, h1, h2, by rw [List.getElem?_append_left (List.getElem?_eq_some_iff.mp h3).1]; exact h3⟩
theorem See.set (h : See p μ d xs) {l : Nat} (hl : ¬ p l) (c : Cell) : See p (μ.set l c) d xs := by
  rcases h with h | ⟨m, h1, h2, h3⟩
  · exact .inl h
  · exact .inr ⟨m, h1, h2, by rw [List.getElem?_set_ne (show l ≠ m from fun z => hl (z ▸ h2))]; exact h3⟩
theorem See.fun_ {ys : List D} (h : See p μ d xs) (h2 : See q μ d ys) : xs = ys := by
  have := h.lk.symm.trans h2.lk
  cases this; rfl
end
def GSee (p : Nat → Prop) (μ : Mu) (d : D) (g : List (List Str)) : Prop := ∃ rows, See p μ d rows ∧ rows.length = g.length ∧ ∀ (i : Nat) s, g[i]? = some s → ∃ r, rows[i]? = some r ∧ See p μ r (s.map .str)
def GCell (p : Nat → Prop) (μ : Mu) (d : D) (g : List (List Str)) : Prop := ∃ lo rows, d = .ref lo ∧ p lo ∧ μ[lo]? = some (.lst rows) ∧ rows.length = g.length ∧ ∀ (i : Nat) s, g[i]? = some s → ∃ l, rows[i]? = some (.ref l) ∧ p l ∧ μ[l]? = some (.lst (s.map .str))
def gridD (g : List (List Str)) : D := .lst (g.map fun s => .lst (s.map .str))
section
variable {p q : Nat → Prop} {μ : Mu} {d : D} {g : List (List Str)}
theorem GCell.see (h : GCell p μ d g) : GSee p μ d g := by
  obtain ⟨lo, rows, h1, h2, h3, h4, h5⟩ := h
  refine ⟨rows, .inr ⟨lo, h1, h2, h3⟩, h4, fun i s e => ?_⟩
  obtain ⟨l, e1, e2, e3⟩ := h5 i s e
  exact ⟨_, e1, .inr ⟨l, rfl, e2, e3⟩⟩
theorem GSee.data : GSee p μ (gridD g) g := ⟨_, .inl rfl, by simp, fun i s e => ⟨_, by rw [List.getElem?_map, e]; rfl, .inl rfl⟩⟩
theorem GSee.imp (h : GSee p μ d g) (hp : ∀ l, p l → q l) : GSee q μ d g := by
  obtain ⟨rows, h1, h2, h3⟩ := h
  exact ⟨rows, h1.imp hp, h2, fun i s e => let ⟨r, a, b⟩ := h3 i s e; ⟨r, a, b.imp hp⟩⟩
theorem GSee.app (h : GSee p μ d g) (ext : Mu) : GSee p (μ ++ ext) d g := by
  obtain ⟨rows, h1, h2, h3⟩ := h
  exact ⟨rows, h1.app ext, h2, fun i s e => let ⟨r, a, b⟩ := h3 i s e; ⟨r, a, b.app ext⟩⟩
theorem GCell.imp (h : GCell p μ d g) (hp : ∀ l, p l → q l) : GCell q μ d g := by
  obtain ⟨lo, rows, h1, h2, h3, h4, h5⟩ := h
  exact ⟨lo, rows, h1, hp _ h2, h3, h4, fun i s e => let ⟨l, a, b, c⟩ := h5 i s e; ⟨l, a, hp _ b, c⟩⟩
theorem get_app {μ ext : Mu} {l : Nat} {c : Cell} (h : μ[l]? = some c) : (μ ++ ext)[l]? = some c := by
  rw [List.getElem?_append_left (List.getElem?_eq_some_iff.mp h).1]; exact h
theorem GCell.app (h : GCell p μ d g) (ext : Mu) : GCell p (μ ++ ext) d g := by
  obtain ⟨lo, rows, h1, h2, h3, h4, h5⟩ := h
  exact ⟨lo, rows, h1, h2, get_app h3, h4, fun i s e => let ⟨l, a, b, c⟩ := h5 i s e; ⟨l, a, b, get_app c⟩⟩
theorem GCell.set (h : GCell p μ d g) {l : Nat} (hl : ¬ p l) (c : Cell) : GCell p (μ.set l c) d g := by
  obtain ⟨lo, rows, h1, h2, h3, h4, h5⟩ := h
  have q : ∀ m, p m → (μ.set l c)[m]? = μ[m]? := fun m hm => List.getElem?_set_ne (show l ≠ m from fun z => hl (z ▸ hm))
  exact ⟨lo, rows, h1, h2, (q _ h2).trans h3, h4, fun i s e => let ⟨l, a, b, c⟩ := h5 i s e; ⟨l, a, b, (q _ b).trans c⟩⟩
theorem GCell.orc (h : GCell p μ d g) {c c' : Nat × Bool} {ρ : Mu} (e : μ = .orc c :: ρ) : GCell p (.orc c' :: ρ) d g := by
  subst e
  obtain ⟨lo, rows, h1, h2, h3, h4, h5⟩ := h
  have q : ∀ (m : Nat) xs, (Cell.orc c :: ρ)[m]? = some (.lst xs) → (Cell.orc c' :: ρ)[m]? = some (.lst xs) := fun m xs e => by
    cases m with
    | zero => cases e
    | succ m => exact e
  exact ⟨lo, rows, h1, h2, q _ _ h3, h4, fun i s e => let ⟨l, a, b, c⟩ := h5 i s e; ⟨l, a, b, q _ _ c⟩⟩
theorem GSee.orc (h : GSee p μ d g) {c c' : Nat × Bool} {ρ : Mu} (e : μ = .orc c :: ρ) : GSee p (.orc c' :: ρ) d g := by
  subst e
  obtain ⟨rows, h1, h2, h3⟩ := h
  have q : ∀ (d : D) xs, See p (Cell.orc c :: ρ) d xs → See p (Cell.orc c' :: ρ) d xs := fun d xs e => by
    rcases e with e | ⟨l, e1, e2, e3⟩
    · exact .inl e
    · refine .inr ⟨l, e1, e2, ?_⟩
      cases l with
      | zero => cases e3
      | succ m => exact e3
  exact ⟨rows, q _ _ h1, h2, fun i s e => let ⟨r, a, b⟩ := h3 i s e; ⟨r, a, q _ _ b⟩⟩
end
def wid (g : List (List Str)) : Nat := (g.headD []).length
def flip (g : List (List Str)) : List (List Str) := (List.range (wid g)).map fun k => g.map fun r => r.getD k Str.empty
/-- a grid of words: at most n lines a side -/
structure GB (W : List Str) (n : Nat) (g : List (List Str)) : Prop where
  h1 : 1 ≤ g.length
  h2 : g.length ≤ n
  w1 : 1 ≤ wid g
  w2 : wid g ≤ n
  eq : ∀ r ∈ g, r.length = wid g
  mem : ∀ r ∈ g, ∀ x ∈ r, x ∈ W
section
variable {W : List Str} {n : Nat} {g : List (List Str)}
theorem flip_len : (flip g).length = wid g := by simp [flip]
theorem flip_wid (h : 1 ≤ wid g) : wid (flip g) = g.length := by
  unfold flip
  obtain ⟨k, hk⟩ : ∃ k, wid g = k + 1 := ⟨wid g - 1, by omega⟩
  rw [hk, List.range_succ_eq_map]
  simp [wid]
theorem flip_get {k : Nat} (h : k < wid g) : (flip g)[k]? = some (g.map fun r => r.getD k Str.empty) := by
  unfold flip
  rw [List.getElem?_map, List.getElem?_range h]; rfl
theorem GB.flip (h : GB W n g) : GB W n (flip g) := by
  have hw := flip_wid h.w1
  refine ⟨by rw [flip_len]; exact h.w1, by rw [flip_len]; exact h.w2, by rw [hw]; exact h.h1, by rw [hw]; exact h.h2, fun r hr => ?_, fun r hr x hx => ?_⟩
  · rw [hw]
    obtain ⟨k, _, rfl⟩ := List.mem_map.mp hr
    simp
  · obtain ⟨k, hk, rfl⟩ := List.mem_map.mp hr
    obtain ⟨s, hs, rfl⟩ := List.mem_map.mp hx
    have hl := h.eq s hs
    rw [List.mem_range] at hk
    rw [List.getD_eq_getElem?_getD, List.getElem?_eq_getElem (by omega)]
    exact h.mem s hs _ (List.getElem_mem _)
theorem GB.mono {m : Nat} (h : GB W n g) (hm : n ≤ m) : GB W m g := ⟨h.h1, Nat.le_trans h.h2 hm, h.w1, Nat.le_trans h.w2 hm, h.eq, h.mem⟩
theorem GB.shrink {m : Nat} (h : GB W n g) (h1 : g.length ≤ m) (h2 : wid g ≤ m) : GB W m g := ⟨h.h1, h1, h.w1, h2, h.eq, h.mem⟩
theorem GB.get0 (h : GB W n g) : ∃ s, g[0]? = some s ∧ s.length = wid g := by
  cases g with
  | nil => exact absurd h.h1 (by simp)
  | cons s r => exact ⟨s, rfl, rfl⟩
end
/-! ### evaluation of small things -/
theorem atI_ix {α : Type} {xs : List α} {i : Nat} {d : α} (h : xs[i]? = some d) : atI xs (i : Int) = some d := atI_nat' (by omega) (by simpa using h)
section
variable {p : Nat → Prop} {μ : Mu} {d : D} {xs : List D} {Γ : Gam} {fa fb : DTE}
theorem ev_ix (h : See p μ d xs) {i : Nat} {x : D} (hx : xs[i]? = some x) (Q : D → Mu → Prop) : gIx d (.int (i : Int)) μ Q = Q x μ := by
  unfold gIx; rw [h.lk]; dsimp only; rw [atI_ix hx]
theorem ev_ix0 (h : See p μ d xs) {x : D} (hx : xs[0]? = some x) (Q : D → Mu → Prop) : gIx d (.int 0) μ Q = Q x μ := ev_ix h hx Q
theorem ev_len (h : See p μ d xs) (Q : D → Mu → Prop) : gLen [d] μ Q = Q (.int xs.length) μ := by
  unfold gLen; dsimp only; rw [h.lk]
theorem ev_wid {W : List Str} {n : Nat} {g : List (List Str)} (h : GSee p μ d g) (hg : GB W n g) (hf : ∀ Q E, fa Γ μ Q E = Q d μ) (Q : D → Mu → Prop) (E : Exn → Mu → Prop) : dCall gLen (dCons (dBin gIx fa (dC (.int 0))) dNil) Γ μ Q E = Q (.int (wid g)) μ := by
  obtain ⟨rows, h1, h2, h3⟩ := h
  obtain ⟨s, hs, hw⟩ := hg.get0
  obtain ⟨r, hr, hr2⟩ := h3 0 s hs
  show fa Γ μ (fun x μ1 => gIx x (.int 0) μ1 fun y μ2 => gLen [y] μ2 Q) E = _
  rw [hf, ev_ix0 h1 hr, ev_len hr2, List.length_map, hw]
theorem ev_iter (h : See p μ d xs) (hf : ∀ Q E, fa Γ μ Q E = Q d μ) : ∃ src, (∀ ext, Gd src (μ ++ ext)) ∧ ∀ Q E, dIter fa Γ μ Q E = Q src xs μ := by
  rcases h with rfl | ⟨l, rfl, _, e⟩
  · exact ⟨none, fun _ => trivial, fun Q E => by unfold dIter; rw [hf]⟩
  · exact ⟨some (l, xs), fun ext => get_app e, fun Q E => by unfold dIter; rw [hf]; dsimp only; rw [e]⟩
end
/-- a comprehension that changes nothing: its items told ahead -/
theorem comp_list {src : Option (Nat × List D)} {g : D → Gam → Mu → (Gam → Prop) → Prop} {tt : DTT} {te : DTE} {Γ : Gam} {μ : Mu} {Q : List D → Mu → Prop} (ys : List D) {ds : List D} (hG : Gd src μ) (hl : ds.length = ys.length) (hs : ds.length ≤ sizeLine)
    (step : ∀ (i : Nat) d y, ds[i]? = some d → ys[i]? = some y → ∀ (K1 : D → Mu → Prop) (K2 : Mu → Prop), K1 y μ → g d Γ μ fun Γ1 => tt Γ1 μ (fun b μ2 => cond b (te Γ1 μ2 K1 fun _ _ => False) (K2 μ2)) fun _ _ => False) (q : Q ys μ) : dCompL src g tt te Γ ds [] μ Q := by
  refine comp_inv (fun i acc μ' => acc = ys.take i ∧ μ' = μ) ⟨by simp, rfl⟩ hs ?_ ?_
  · rintro i d acc μ' hd ⟨rfl, rfl⟩
    have hi : i < ys.length := by rw [← hl]; exact (List.getElem?_eq_some_iff.mp hd).1
    refine ⟨hG, fun K1 K2 k1 k2 => step i d ys[i] hd (List.getElem?_eq_getElem hi) K1 K2 (k1 _ _ ⟨?_, rfl⟩)⟩
    rw [List.take_succ, List.getElem?_eq_getElem hi]; rfl
  · rintro acc μ' ⟨rfl, rfl⟩
    rw [hl, List.take_length]
    exact ⟨hG, q⟩
/-- the same with one new cell an item -/
theorem comp_cells {src : Option (Nat × List D)} {g : D → Gam → Mu → (Gam → Prop) → Prop} {tt : DTT} {te : DTE} {Γ : Gam} {μ : Mu} {Q : List D → Mu → Prop} (cs : List Cell) {ds : List D} (hG : ∀ ext, Gd src (μ ++ ext)) (hl : ds.length = cs.length) (hs : ds.length ≤ sizeLine)
    (step : ∀ (i : Nat) d c μ', ds[i]? = some d → cs[i]? = some c → μ' = μ ++ cs.take i → ∀ (K1 : D → Mu → Prop) (K2 : Mu → Prop), K1 (.ref μ'.length) (μ' ++ [c]) → g d Γ μ' fun Γ1 => tt Γ1 μ' (fun b μ2 => cond b (te Γ1 μ2 K1 fun _ _ => False) (K2 μ2)) fun _ _ => False)
    (q : Q ((List.range cs.length).map fun i => .ref (μ.length + i)) (μ ++ cs)) : dCompL src g tt te Γ ds [] μ Q := by
  refine comp_inv (fun i acc μ' => acc = ((List.range i).map fun i => D.ref (μ.length + i)) ∧ μ' = μ ++ cs.take i) ⟨by simp, by simp⟩ hs ?_ ?_
  · rintro i d acc μ' hd ⟨rfl, rfl⟩
    have hi : i < cs.length := by rw [← hl]; exact (List.getElem?_eq_some_iff.mp hd).1
    refine ⟨hG _, fun K1 K2 k1 k2 => step i d cs[i] _ hd (List.getElem?_eq_getElem hi) rfl K1 K2 (k1 _ _ ⟨?_, ?_⟩)⟩
    · rw [List.range_succ, List.map_append, List.length_append, List.length_take, Nat.min_eq_left (by omega)]; rfl
    · rw [List.take_succ, List.getElem?_eq_getElem hi, List.append_assoc]; rfl
  · rintro acc μ' ⟨rfl, rfl⟩
    rw [hl, List.take_length]
    exact ⟨hG _, q⟩
def rowC (s : List Str) : Cell := .lst (s.map .str)
theorem gcell_new {μ : Mu} {g : List (List Str)} {p : Nat → Prop} (hp : ∀ l, μ.length ≤ l → p l) : GCell p (μ ++ g.map rowC ++ [.lst ((List.range g.length).map fun i => .ref (μ.length + i))]) (.ref (μ.length + g.length)) g := by
  refine ⟨_, (List.range g.length).map fun i => .ref (μ.length + i), rfl, hp _ (by omega), by rw [List.getElem?_append_right (by simp)]; simp, by simp, fun i s e => ?_⟩
  have hi : i < g.length := (List.getElem?_eq_some_iff.mp e).1
  refine ⟨μ.length + i, by rw [List.getElem?_map, List.getElem?_range hi]; rfl, hp _ (by omega), get_app ?_⟩
  rw [List.getElem?_append_right (by omega), show μ.length + i - μ.length = i from by omega, List.getElem?_map, e]; rfl
/-- a grid in cells becomes data at a def's end -/
theorem gfz {μ1 loc : Mu} {d : D} {g : List (List Str)} (h : GSee (fun l => μ1.length ≤ l) (μ1 ++ loc) d g) : Fz μ1.length (μ1 ++ loc) d (gridD g) := by
  obtain ⟨rows, h1, h2, h3⟩ := h
  have pu : ∀ s : List Str, FzL μ1.length (μ1 ++ loc) (s.map D.str) (s.map D.str) := fun s => by
    induction s with
    | nil => exact .nil
    | cons a s ih => exact .cons (.pu rfl) ih
  have rw_ : ∀ r (s : List Str), See (fun l => μ1.length ≤ l) (μ1 ++ loc) r (s.map .str) → Fz μ1.length (μ1 ++ loc) r (.lst (s.map .str)) := fun r s e => by
    rcases e with rfl | ⟨l, rfl, e1, e2⟩
    · exact .lst (pu s)
    · exact .cell e1 e2 (pu s)
  have all : FzL μ1.length (μ1 ++ loc) rows (g.map fun s => .lst (s.map .str)) := by
    clear h1
    induction g generalizing rows with
    | nil =>
      have : rows = [] := List.eq_nil_of_length_eq_zero h2
      subst this; exact .nil
    | cons s g ih =>
      cases rows with
      | nil => simp at h2
      | cons r rows =>
        obtain ⟨r', e1, e2⟩ := h3 0 s rfl
        cases e1
        exact .cons (rw_ _ _ e2) (ih rows (by simpa using h2) fun i t e => h3 (i + 1) t e)
  rcases h1 with rfl | ⟨l, rfl, e1, e2⟩
  · exact .lst all
  · exact .cell e1 e2 all
section
variable {α : Type} {ρ r : List α} {x y z w u : α}
theorem get_a0 : (ρ ++ x :: r)[ρ.length]? = some x := by rw [List.getElem?_append_right (Nat.le_refl _)]; simp
theorem get_a1 : (ρ ++ x :: y :: r)[ρ.length + 1]? = some y := by rw [List.getElem?_append_right (by omega), show ρ.length + 1 - ρ.length = 1 from by omega]; rfl
theorem get_a2 : (ρ ++ x :: y :: z :: r)[ρ.length + 2]? = some z := by rw [List.getElem?_append_right (by omega), show ρ.length + 2 - ρ.length = 2 from by omega]; rfl
theorem get_a3 : (ρ ++ x :: y :: z :: w :: r)[ρ.length + 3]? = some w := by rw [List.getElem?_append_right (by omega), show ρ.length + 3 - ρ.length = 3 from by omega]; rfl
theorem set_a0 : (ρ ++ x :: r).set ρ.length u = ρ ++ u :: r := by rw [List.set_append_right _ _ (Nat.le_refl _)]; simp
theorem set_a1 : (ρ ++ x :: y :: r).set (ρ.length + 1) u = ρ ++ x :: u :: r := by rw [List.set_append_right _ _ (by omega), show ρ.length + 1 - ρ.length = 1 from by omega]; rfl
theorem set_a2 : (ρ ++ x :: y :: z :: r).set (ρ.length + 2) u = ρ ++ x :: y :: u :: r := by rw [List.set_append_right _ _ (by omega), show ρ.length + 2 - ρ.length = 2 from by omega]; rfl
theorem set_a3 : (ρ ++ x :: y :: z :: w :: r).set (ρ.length + 3) u = ρ ++ x :: y :: z :: u :: r := by rw [List.set_append_right _ _ (by omega), show ρ.length + 3 - ρ.length = 3 from by omega]; rfl
end
end DV
local macro_rules | `(tactic| walk_at "dv") => `(tactic| try simp only [DV.dSeq, DV.dIf, DV.dOrT, DV.dAndT, DV.dNotT, DV.dTest, DV.dChain, DV.dC, DV.dCall, DV.gLen, DV.dCons, DV.dVar, DV.dNil, DV.dBin, DV.dUn, DV.gNeg, DV.gIn, DV.gIx, DV.dRet, DV.dRetN, DV.dNext, DV.dFor, DV.dIter, DV.dName, DV.lk, DV.dAsg, DV.dDrop, DV.gLst, DV.gTup, DV.gLstM, DV.gAdd, DV.gI, DV.gMod, DV.gMul, DV.gFdiv, DV.gPow, DV.gAbs, DV.gInt, DV.gList, DV.gTuple, DV.dOp, DV.dOpK, DV.dIsi, DV.tyD, DV.gIs, DV.gIsNot, DV.D.isN, DV.dJoin, DV.dCellM, DV.dSetI, DV.dSlice, DV.dPart, DV.dNoPart, DV.dRevA, DV.dFin, DV.dAugI, DV.dComp, DV.wipeG, DV.cName, DV.cPair, DV.dYes, DV.dRange1, DV.dRange2, DV.dAnd, DV.dOr, DV.dNot, DV.dIfE, DV.gEq, DV.gNe, DV.sgn_one, DV.atI_zero, DV.dTruth, DV.truD, DV.dBreak, DV.dCont, DV.gSorted, DV.dSortK, DV.dRevT, DV.gInD, DV.gIsB, DV.gStr, DV.dPop0, DV.dDict, DV.dPairs, DV.keysD, DV.keyOfD, DV.dFinD, DV.dFld, DV.dSetF, DV.dMake, DV.dMethod, DV.dProp, DV.dOwnIx, DV.dNever, DV.dRaise, DV.dRaise0, DV.gMulM, DV.gAddM, DV.gMax2, DV.dPair, DV.gDGet, DV.dSetD, DV.dDict0, DV.dComp2, DV.dSortSC, DV.isIns, DV.insOf,
  List.getElem?_cons_zero, List.getElem?_cons_succ, List.set_cons_zero, List.set_cons_succ, List.map_cons, List.map_nil, List.length_cons, List.length_nil, List.replicate, List.cons_append, List.nil_append, DV.start0, if_true, if_false, Bool.not_true, Bool.not_false, Bool.false_eq_true, Bool.true_and, Bool.and_true, Bool.or_true, Bool.true_or, Bool.false_or, Bool.or_false, eq_self_iff_true, not_true_eq_false, not_false_eq_true, ite_true, ite_false, cond_true, cond_false])
local macro_rules | `(tactic| walk_at "ix") => `(tactic| try simp only [List.length_append, List.length_cons, List.length_nil, List.length_map, Nat.zero_add, Nat.add_zero, Nat.add_assoc, Nat.reduceAdd, List.getElem?_cons_zero, List.getElem?_cons_succ, List.set_cons_zero, List.set_cons_succ, DV.get_a0, DV.get_a1, DV.get_a2, DV.get_a3, DV.set_a0, DV.set_a1, DV.set_a2, DV.set_a3, List.append_assoc, List.cons_append, List.nil_append])
local macro_rules | `(tactic| walk_at "sz") => `(tactic| (first | decide | omega | (rw [L2.sizeLine_eq]; first | decide | omega | (simp only [List.length_map, List.length_cons, List.length_nil, List.length_append]; omega) | (simp; omega) | simp) | (simp; omega)))
namespace DV
open PySem PySem.Spec PyProof.Rows L2
/-- cells with the oracle at their head -/
abbrev O (c : Nat) (ρ : Mu) : Mu := Cell.orc (c, false) :: ρ
theorem take_O {c : Nat} {ρ : Mu} {m : Int} {Q : D → Mu → Prop} {E : Exn → Mu → Prop} (hc : 0 < c) (hm : 0 < m) (hm2 : m.natAbs < 2 ^ 60) (q : ∀ c' d, c ≤ c' + 1 → 0 ≤ d → d < m → Q (.int d) (O c' ρ)) : S_take [.ref 0, .int m] (O c ρ) Q E :=
  ⟨0, c - 1, m, rfl, by show some (Cell.orc (c, false)) = _; rw [show c - 1 + 1 = c from by omega], hm, Nat.lt_of_lt_of_le (PySem.Flt.log2_lt_of (by decide) hm2) (by decide), fun d h1 h2 => q _ d (by omega) h1 h2⟩
theorem pop_at {xs : List D} {i : Int} (h0 : 0 ≤ i) (h1 : i < xs.length) (hl : xs.length ≤ 1000000) : ∃ y, xs[i.toNat]? = some y ∧ cPop xs [.int i] = some (y, xs.eraseIdx i.toNat) := by
  have h : i.toNat < xs.length := by omega
  refine ⟨xs[i.toNat], List.getElem?_eq_getElem h, ?_⟩
  unfold cPop
  dsimp only
  rw [if_pos (by omega)]
  have e : seqIndex? i xs.length = some i.toNat := by
    unfold seqIndex?
    simp only []
    split
    · rename_i h; omega
    · first | rfl | (split <;> first | rfl | omega) | (simp; omega)
  rw [e]
  dsimp only
  rw [List.getElem?_eq_getElem h]; rfl
theorem perm_pop {α : Type} {xs : List α} {i : Nat} {y : α} (h : xs[i]? = some y) : (y :: xs.eraseIdx i).Perm xs := by
  obtain ⟨h1, rfl⟩ := List.getElem?_eq_some_iff.mp h
  induction xs generalizing i with
  | nil => simp at h1
  | cons a xs ih =>
    cases i with
    | zero => exact .refl _
    | succ i =>
      simp only [List.eraseIdx_cons_succ, List.getElem_cons_succ]
      have h2 : i < xs.length := by simpa using h1
      exact (List.Perm.swap _ _ _).trans ((ih h2 (List.getElem?_eq_getElem h2)).cons a)
theorem append_at {xs : List D} {d : D} (h : xs.length < 1000000) : cAppend xs [d] = some (.non, xs ++ [d]) := by
  unfold cAppend
  dsimp only
  rw [if_pos (by rw [sizeLine_eq]; omega)]
theorem perm_map_inv {α β : Type} {f : α → β} {ys zs : List β} (h : ys.Perm zs) : ∀ {L : List α}, zs = L.map f → ∃ W : List α, ys = W.map f ∧ W.Perm L := by
  induction h with
  | nil =>
    intro L e
    exact ⟨[], rfl, by cases L with | nil => exact .nil | cons a l => cases e⟩
  | cons x h ih =>
    intro L e
    cases L with
    | nil => cases e
    | cons a l =>
      simp only [List.map_cons, List.cons.injEq] at e
      obtain ⟨rfl, e⟩ := e
      obtain ⟨W, rfl, h2⟩ := ih e
      exact ⟨a :: W, rfl, h2.cons a⟩
  | swap x y l =>
    intro L e
    match L, e with
    | a :: b :: l', e =>
      simp only [List.map_cons, List.cons.injEq] at e
      obtain ⟨rfl, rfl, rfl⟩ := e
      exact ⟨b :: a :: l', rfl, .swap _ _ _⟩
  | trans h1 h2 ih1 ih2 =>
    intro L e
    obtain ⟨W, e1, p1⟩ := ih2 e
    obtain ⟨W', e2, p2⟩ := ih1 e1
    exact ⟨W', e2, p2.trans p1⟩
structure WOk (W : List Str) : Prop where
  len : W.length = 6
  nd : W.Nodup
  ok : ∀ x ∈ W, validN x = true
/-! flipped -/
def S_flipped : DSp := fun ds μ Q _ => ∃ d g W n, ds = [d] ∧ GSee (fun _ => True) μ d g ∧ GB W n g ∧ n ≤ 1000 ∧ (Q (gridD (flip g)) μ ∨ ∀ d' ext, GCell (fun l => μ.length ≤ l) (μ ++ ext) d' (flip g) → Q d' (μ ++ ext))
def t_flipped : DTS := dRet (dComp false [1] (dRange1 (dCall gLen (dCons (dBin gIx (dVar 0) (dC (.int 0))) dNil))) (cName 1) (dYes) (dComp false [2] (dIter (dVar 0)) (cName 2) (dYes) (dBin gIx (dVar 2) (dVar 1))))
theorem rd_flipped {n1 n2 n3 : Str} : ∀ ds μ Q E, S_flipped ds μ Q E → t_flipped (dFn μ Q E) (start0 [n1, n2, n3] ds) μ := by
  rintro _ μ Q E ⟨d, g, W, n, rfl, hs, hg, hn, q⟩
  unfold t_flipped
  simp only [dRet, dComp, dRange1, start0, List.map_cons, List.map_nil, List.length_cons, List.length_nil, List.replicate, List.cons_append, List.nil_append]
  rw [ev_wid hs hg (fun _ _ => rfl)]
  dsimp only
  have hw2 := hg.w2
  have hh2 := hg.h2
  refine ⟨by omega, ?_⟩
  simp only [wipeG, List.set_cons_succ, List.set_cons_zero]
  refine comp_cells ((flip g).map rowC) (fun _ => trivial) (by rw [irng_len, List.length_map, flip_len]; rfl) (by rw [irng_len, sizeLine_eq]; omega) ?_ ?_
  · rintro k d' cl μ' hd' hc rfl K1 K2 k1
    obtain ⟨hk, rfl⟩ := irng_get hd'
    have hk : k < wid g := by simpa using hk
    rw [List.getElem?_map, flip_get hk] at hc
    cases hc
    simp only [cName, dYes, cond_true, List.set_cons_succ, List.set_cons_zero]
    obtain ⟨rows, h1, h2, h3⟩ := hs.app (((flip g).map rowC).take k)
    obtain ⟨src, i1, i2⟩ := ev_iter (fa := dVar 0) (Γ := [some d, some (.int (0 + (k : Int))), none]) h1 (fun _ _ => rfl)
    unfold dComp
    rw [i2]
    simp only [wipeG, List.set_cons_succ, List.set_cons_zero]
    refine comp_list ((g.map fun r => r.getD k Str.empty).map .str) (by have := i1 []; simpa using this) (by rw [h2]; simp) (by rw [h2, sizeLine_eq]; omega) ?_ ?_
    · intro i r y hr hy L1 L2 l1
      rw [List.getElem?_map, List.getElem?_map] at hy
      cases hgi : g[i]? with
      | none => rw [hgi] at hy; cases hy
      | some s =>
        rw [hgi] at hy
        cases hy
        obtain ⟨r', e1, e2⟩ := h3 i s hgi
        rw [hr] at e1; cases e1
        have hsl : k < s.length := by rw [hg.eq s (List.mem_of_getElem? hgi)]; exact hk
        simp only [cName, dYes, cond_true, dBin, dVar, List.set_cons_succ, List.set_cons_zero, List.getElem?_cons_zero, List.getElem?_cons_succ, Int.zero_add]
        rw [ev_ix e2 (x := .str (s.getD k Str.empty)) (by rw [List.getElem?_map, List.getElem?_eq_getElem hsl, List.getD_eq_getElem?_getD, List.getElem?_eq_getElem hsl]; rfl)]
        exact l1
    · exact k1
  · rw [List.length_map]
    have nw := gcell_new (μ := μ) (g := flip g) (p := fun l => μ.length ≤ l) (fun l h => h)
    show FnEnd μ (.ref (μ ++ (flip g).map rowC).length) ((μ ++ (flip g).map rowC) ++ [_]) Q
    rw [List.length_append, List.length_map, List.append_assoc]
    rw [List.append_assoc] at nw
    rcases q with q | q
    · exact FnEnd.melt (Upd.refl μ) (gfz nw.see) q
    · exact FnEnd.here (q _ _ nw)
end DV
namespace DV
open PySem PySem.Spec PyProof.Rows L2
/-- rows in cells -/
def RowsAt (p : Nat → Prop) (μ : Mu) (acc : List D) (gs : List (List Str)) : Prop := acc.length = gs.length ∧ ∀ (i : Nat) s, gs[i]? = some s → ∃ l, acc[i]? = some (.ref l) ∧ p l ∧ μ[l]? = some (.lst (s.map .str))
section
variable {p q : Nat → Prop} {μ : Mu} {acc : List D} {gs : List (List Str)}
theorem RowsAt.nil : RowsAt p μ [] [] := ⟨rfl, fun i s e => by simp at e⟩
theorem RowsAt.to {μ' : Mu} (h : RowsAt p μ acc gs) (hp : ∀ (l : Nat) xs, p l → μ[l]? = some (.lst xs) → q l ∧ μ'[l]? = some (.lst xs)) : RowsAt q μ' acc gs :=
  ⟨h.1, fun i s e => let ⟨l, a, b, c⟩ := h.2 i s e; ⟨l, a, (hp l _ b c).1, (hp l _ b c).2⟩⟩
theorem RowsAt.push (h : RowsAt p μ acc gs) {l : Nat} {s : List Str} (hl : p l) (e : μ[l]? = some (.lst (s.map .str))) : RowsAt p μ (acc ++ [.ref l]) (gs ++ [s]) := by
  refine ⟨by simp [h.1], fun i t et => ?_⟩
  rcases get_app1_lt et with ⟨hi, et⟩ | ⟨hi, rfl⟩
  · obtain ⟨m, a, b, c⟩ := h.2 i t et
    exact ⟨m, by rw [List.getElem?_append_left (by rw [h.1]; exact hi)]; exact a, b, c⟩
  · subst hi
    exact ⟨l, by rw [← h.1]; simp, hl, e⟩
theorem RowsAt.gcell {lo : Nat} (h : RowsAt p μ acc gs) (h1 : p lo) (h2 : μ[lo]? = some (.lst acc)) : GCell p μ (.ref lo) gs := ⟨lo, acc, rfl, h1, h2, h.1, h.2⟩
end
end DV
namespace DV
open PySem PySem.Spec PyProof.Rows L2
/-- what a maker of a grid promises -/
def GenQ (c : Nat) (ρ : Mu) (W : List Str) (B : Nat) (Q : D → Mu → Prop) : Prop := ∀ c' d' ext g, c ≤ c' + B → GB W 8 g → GCell (fun l => ρ.length + 1 ≤ l) (O c' (ρ ++ ext)) d' g → Q d' (O c' (ρ ++ ext))
theorem GB.mk' {W : List Str} {n w : Nat} {g : List (List Str)} (h1 : 1 ≤ g.length) (h2 : g.length ≤ n) (w1 : 1 ≤ w) (w2 : w ≤ n) (h : ∀ r ∈ g, r.length = w ∧ ∀ x ∈ r, x ∈ W) : GB W n g := by
  have e : wid g = w := by
    cases g with
    | nil => simp at h1
    | cons s r => exact (h s (by simp)).1
  exact ⟨h1, h2, e ▸ w1, e ▸ w2, fun r hr => e ▸ (h r hr).1, fun r hr => (h r hr).2⟩
theorem word_at {W : List Str} {t : Int} (h0 : 0 ≤ t) (h1 : t < W.length) : ∃ x ∈ W, atI (W.map D.str) t = some (.str x) := by
  have h : t.toNat < W.length := by omega
  exact ⟨W[t.toNat], List.getElem_mem h, atI_nat' h0 (by rw [List.getElem?_map, List.getElem?_eq_getElem h]; rfl)⟩
end DV
namespace DV
open PySem PySem.Spec PyProof.Rows L2
end DV
namespace DV
open PySem PySem.Spec PyProof.Rows L2
/-- cells: the oracle at their head with c draws left, then ρ as it was, then anything -/
def St (c : Nat) (ρ : Mu) (μ : Mu) : Prop := ∃ ext, μ = O c (ρ ++ ext)
section
variable {c : Nat} {ρ μ : Mu}
theorem St.app (h : St c ρ μ) (e : Mu) : St c ρ (μ ++ e) := by
  obtain ⟨ext, rfl⟩ := h
  exact ⟨ext ++ e, by simp⟩
theorem St.set (h : St c ρ μ) {l : Nat} (hl : ρ.length + 1 ≤ l) (x : Cell) : St c ρ (μ.set l x) := by
  obtain ⟨ext, rfl⟩ := h
  refine ⟨ext.set (l - (ρ.length + 1)) x, ?_⟩
  obtain ⟨k, rfl⟩ : ∃ k, l = k + 1 := ⟨l - 1, by omega⟩
  show Cell.orc (c, false) :: (ρ ++ ext).set k x = _
  rw [List.set_append_right _ _ (by omega), show k - ρ.length = k + 1 - (ρ.length + 1) from by omega]
theorem St.len (h : St c ρ μ) : ρ.length + 1 ≤ μ.length := by
  obtain ⟨ext, rfl⟩ := h
  simp only [List.length_cons, List.length_append]; omega
end
theorem GSee.any {p : Nat → Prop} {μ : Mu} {d : D} {g : List (List Str)} (h : GSee p μ d g) : GSee (fun _ => True) μ d g := h.imp fun _ _ => trivial
/-- the parts, in their cell -/
def PartsAt (W : List Str) (lp : Nat) (p : Nat → Prop) (μ : Mu) (parts : List D) : Prop := μ[lp]? = some (.lst parts) ∧ ∀ a ∈ parts, ∃ g, GB W 8 g ∧ GCell p μ a g
theorem PartsAt.keep {W : List Str} {lp : Nat} {p : Nat → Prop} {μ μ' : Mu} {parts parts' : List D} (h : PartsAt W lp p μ parts) (h1 : μ'[lp]? = some (.lst parts')) (h2 : ∀ a ∈ parts', a ∈ parts) (h3 : ∀ a g, GCell p μ a g → GCell p μ' a g) : PartsAt W lp p μ' parts' :=
  ⟨h1, fun a ha => let ⟨g, b, c⟩ := h.2 a (h2 a ha); ⟨g, b, h3 a g c⟩⟩
end DV
namespace DV
open PySem PySem.Spec PyProof.Rows L2
/-! smooth_grid -/
theorem GCell.apart {p : Nat → Prop} {μ : Mu} {lo : Nat} {g : List (List Str)} {rows : List D} (h : GCell p μ (.ref lo) g) (e : μ[lo]? = some (.lst rows)) : rows.length = g.length ∧ p lo ∧ ∀ (i : Nat) s, g[i]? = some s → ∃ l, rows[i]? = some (.ref l) ∧ p l ∧ l ≠ lo ∧ μ[l]? = some (.lst (s.map .str)) := by
  obtain ⟨lo', rows', h1, h2, h3, h4, h5⟩ := h
  cases h1
  rw [e] at h3; cases h3
  refine ⟨h4, h2, fun i s es => ?_⟩
  obtain ⟨l, a, b, c⟩ := h5 i s es
  refine ⟨l, a, b, fun z => ?_, c⟩
  subst z
  rw [e] at c; cases c
  rw [List.getElem?_map] at a
  cases hx : s[i]? with
  | none => rw [hx] at a; cases a
  | some x => rw [hx] at a; cases a
theorem get_ins {α : Type} {xs : List α} {t : Nat} {y : α} (ht : t ≤ xs.length) (i : Nat) : (xs.take t ++ [y] ++ xs.drop t)[i]? = if i < t then xs[i]? else if i = t then some y else xs[i - 1]? := by
  have hl : (xs.take t).length = t := by rw [List.length_take]; omega
  by_cases h1 : i < t
  · rw [if_pos h1, List.append_assoc, List.getElem?_append_left (by omega), List.getElem?_take, if_pos h1]
  · rw [if_neg h1]
    by_cases h2 : i = t
    · subst h2
      rw [if_pos rfl, List.append_assoc, List.getElem?_append_right (by omega), hl]; simp
    · rw [if_neg h2, List.getElem?_append_right (by simp; omega)]
      simp only [List.length_append, hl, List.length_cons, List.length_nil, List.getElem?_drop]
      congr 1
      omega
theorem GCell.ins {p : Nat → Prop} {μ : Mu} {lo l t : Nat} {g : List (List Str)} {rows : List D} {s : List Str} (h : GCell p μ (.ref lo) g) (e : μ[lo]? = some (.lst rows)) (ht : t ≤ g.length) (hl : p l) (hne : l ≠ lo) (el : μ[l]? = some (.lst (s.map .str))) :
    GCell p (μ.set lo (.lst (rows.take t ++ [.ref l] ++ rows.drop t))) (.ref lo) (g.take t ++ [s] ++ g.drop t) := by
  obtain ⟨h1, h2, h3⟩ := h.apart e
  have hlt := (List.getElem?_eq_some_iff.mp e).1
  refine ⟨lo, _, rfl, h2, List.getElem?_set_self hlt, by simp [h1], fun i s' es => ?_⟩
  rw [get_ins ht] at es
  have row : ∀ j, g[j]? = some s' → ∃ m, rows[j]? = some (D.ref m) ∧ p m ∧ (μ.set lo (Cell.lst (rows.take t ++ [D.ref l] ++ rows.drop t)))[m]? = some (Cell.lst (s'.map D.str)) := fun j ej => by
    obtain ⟨m, a, b, c, d⟩ := h3 j s' ej
    exact ⟨m, a, b, by rw [List.getElem?_set_ne (Ne.symm c)]; exact d⟩
  rw [get_ins (by omega)]
  split at es
  · rename_i hi
    rw [if_pos hi]; exact row i es
  · rename_i hi
    rw [if_neg hi]
    split at es
    · rename_i hi2
      cases es
      rw [if_pos hi2]
      exact ⟨l, rfl, hl, by rw [List.getElem?_set_ne (Ne.symm hne)]; exact el⟩
    · rename_i hi2
      rw [if_neg hi2]; exact row (i - 1) es
theorem GB.ins {W : List Str} {g : List (List Str)} {s : List Str} {t : Nat} (h : GB W 8 g) (h8 : g.length < 8) (hs : s.length = wid g) (hm : ∀ x ∈ s, x ∈ W) (ht : t ≤ g.length) : GB W 8 (g.take t ++ [s] ++ g.drop t) := by
  refine GB.mk' (w := wid g) (by simp; omega) (by simp; omega) h.w1 h.w2 fun r hr => ?_
  rcases List.mem_append.mp hr with z | z
  · rcases List.mem_append.mp z with z | z
    · exact ⟨h.eq r (List.mem_of_mem_take z), h.mem r (List.mem_of_mem_take z)⟩
    · rw [List.mem_singleton.mp z]; exact ⟨hs, hm⟩
  · exact ⟨h.eq r (List.mem_of_mem_drop z), h.mem r (List.mem_of_mem_drop z)⟩
/-- a grid in cells that p allows, the cells as they stand -/
structure SGr (c : Nat) (ρ : Mu) (W : List Str) (μ : Mu) (d : D) (g : List (List Str)) : Prop where
  st : St c ρ μ
  b : GB W 8 g
  s : GCell (fun l => ρ.length + 1 ≤ l) μ d g
theorem SGr.app {c : Nat} {ρ : Mu} {W : List Str} {μ : Mu} {d : D} {g : List (List Str)} (h : SGr c ρ W μ d g) (e : Mu) : SGr c ρ W (μ ++ e) d g := ⟨h.st.app e, h.b, h.s.app e⟩
end DV
namespace DV
open PySem PySem.Spec PyProof.Rows L2
open Classical in
theorem GCell.rowset {p : Nat → Prop} {μ : Mu} {d : D} {g : List (List Str)} {W : List Str} {l : Nat} {s s' : List Str} {rows : List D} (h : GCell p μ d g) (hb : GB W 8 g) (hr : See (fun _ => True) μ d rows) (i : Nat) (hi : rows[i]? = some (.ref l)) (hl : μ[l]? = some (.lst (s.map .str))) (hs : s'.length = wid g) (hm : ∀ x ∈ s', x ∈ W) :
    ∃ g', GB W 8 g' ∧ GCell p (μ.set l (.lst (s'.map .str))) d g' := by
  obtain ⟨lo, rows', h1, h2, h3, h4, h5⟩ := id h
  subst h1
  have er : rows = rows' := hr.fun_ (q := fun _ => True) (.inr ⟨lo, rfl, trivial, h3⟩)
  subst er
  have hlt : l < μ.length := (List.getElem?_eq_some_iff.mp hl).1
  have hne : l ≠ lo := fun z => by
    subst z
    rw [h3] at hl; cases hl
    rw [List.getElem?_map] at hi
    cases hx : s[i]? with
    | none => rw [hx] at hi; cases hi
    | some x => rw [hx] at hi; cases hi
  refine ⟨(List.range g.length).map fun i => if rows[i]? = some (D.ref l) then s' else g.getD i [], GB.mk' (w := wid g) (by simpa using hb.h1) (by simpa using hb.h2) hb.w1 hb.w2 fun r hr => ?_, lo, rows, rfl, h2, by rw [List.getElem?_set_ne hne]; exact h3, by simpa using h4, fun j t e => ?_⟩
  · obtain ⟨j, hj, rfl⟩ := List.mem_map.mp hr
    rw [List.mem_range] at hj
    split
    · exact ⟨hs, hm⟩
    · rw [List.getD_eq_getElem?_getD, List.getElem?_eq_getElem hj]
      exact ⟨hb.eq _ (List.getElem_mem hj), hb.mem _ (List.getElem_mem hj)⟩
  · rw [List.getElem?_map] at e
    have hj : j < g.length := by
      cases hx : (List.range g.length)[j]? with
      | none => rw [hx] at e; cases e
      | some x => have := (List.getElem?_eq_some_iff.mp hx).1; simpa using this
    rw [List.getElem?_range hj] at e
    obtain ⟨m, a, b, c⟩ := h5 j g[j] (List.getElem?_eq_getElem hj)
    refine ⟨m, a, b, ?_⟩
    have e' : (if rows[j]? = some (D.ref l) then s' else g.getD j []) = t := by simpa using e
    by_cases hm2 : m = l
    · subst hm2
      rw [if_pos a] at e'
      rw [← e', List.getElem?_set_self hlt]
    · rw [if_neg (by rw [a]; intro z; cases z; exact hm2 rfl), List.getD_eq_getElem?_getD, List.getElem?_eq_getElem hj] at e'
      rw [List.getElem?_set_ne (Ne.symm hm2), c]
      rw [← e']; rfl
end DV
namespace DV
open PySem PySem.Spec PyProof.Rows L2
/-! ### tables -/
/-- the items of a list or a tuple, as data or in a cell -/
def seqOf (μ : Mu) (d : D) : Option (List D) := match lk μ d with
  | .lst xs => some xs
  | .tup xs => some xs
  | _ => none
/-- rows of texts: lists or tuples -/
def TSee (μ : Mu) (d : D) (g : List (List Str)) : Prop := ∃ rows, seqOf μ d = some rows ∧ rows.length = g.length ∧ ∀ (i : Nat) s, g[i]? = some s → ∃ r, rows[i]? = some r ∧ seqOf μ r = some (s.map .str)
def rowsD (g : List (List Str)) : D := .tup (g.map fun s => .tup (s.map .str))
theorem GSee.tsee {p : Nat → Prop} {μ : Mu} {d : D} {g : List (List Str)} (h : GSee p μ d g) : TSee μ d g := by
  obtain ⟨rows, h1, h2, h3⟩ := h
  exact ⟨rows, by unfold seqOf; rw [h1.lk], h2, fun i s e => let ⟨r, a, b⟩ := h3 i s e; ⟨r, a, by unfold seqOf; rw [b.lk]⟩⟩
theorem TSee.data {μ : Mu} {g : List (List Str)} : TSee μ (gridD g) g := (GSee.data (p := fun _ => True)).tsee
theorem TSee.rows {μ : Mu} {g : List (List Str)} : TSee μ (rowsD g) g := ⟨_, rfl, by simp, fun i s e => ⟨_, by rw [List.getElem?_map, e]; rfl, rfl⟩⟩
theorem sq_ix {μ : Mu} {d x : D} {xs : List D} (h : seqOf μ d = some xs) {i : Nat} (hx : xs[i]? = some x) (Q : D → Mu → Prop) : gIx d (.int (i : Int)) μ Q = Q x μ := by
  unfold seqOf at h
  unfold gIx
  split at h
  · rename_i e; cases h; rw [e]; dsimp only; rw [atI_ix hx]
  · rename_i e; cases h; rw [e]; dsimp only; rw [atI_ix hx]
  · cases h
theorem sq_len {μ : Mu} {d : D} {xs : List D} (h : seqOf μ d = some xs) (Q : D → Mu → Prop) : gLen [d] μ Q = Q (.int xs.length) μ := by
  unfold seqOf at h
  unfold gLen
  split at h
  · rename_i e; cases h; dsimp only; rw [e]
  · rename_i e; cases h; dsimp only; rw [e]
  · cases h
theorem sq_iter {μ : Mu} {d : D} {xs : List D} (h : seqOf μ d = some xs) {Γ : Gam} {fa : DTE} (hf : ∀ Q E, fa Γ μ Q E = Q d μ) : ∃ src, Gd src μ ∧ ∀ Q E, dIter fa Γ μ Q E = Q src xs μ := by
  have hd : (∀ l, d ≠ .ref l) → lk μ d = d := fun z => by
    cases d with
    | ref l => exact absurd rfl (z l)
    | _ => rfl
  unfold seqOf at h
  by_cases hr : ∃ l, d = .ref l
  · obtain ⟨l, rfl⟩ := hr
    split at h
    · rename_i e; cases h
      rcases lk_ref e (by simp) with ⟨ys, e1, q⟩ | ⟨ys, e1, q⟩ | ⟨C, fs, e1, q⟩
      · cases q
        exact ⟨some (l, xs), e1, fun Q E => by unfold dIter; rw [hf]; dsimp only; rw [e1]⟩
      · cases q
      · cases q
    · rename_i e; cases h
      rcases lk_ref e (by simp) with ⟨ys, e1, q⟩ | ⟨ys, e1, q⟩ | ⟨C, fs, e1, q⟩ <;> cases q
    · cases h
  · rw [hd (fun l z => hr ⟨l, z⟩)] at h
    split at h
    · cases h; exact ⟨none, trivial, fun Q E => by unfold dIter; rw [hf]⟩
    · cases h; exact ⟨none, trivial, fun Q E => by unfold dIter; rw [hf]⟩
    · cases h
theorem sq_tuple {μ : Mu} {d : D} {xs : List D} (h : seqOf μ d = some xs) (Q : D → Mu → Prop) : gTuple [d] μ Q = Q (.tup xs) μ := by
  unfold seqOf at h
  unfold gTuple
  split at h
  · rename_i e; cases h; dsimp only; rw [e]
  · rename_i e; cases h; dsimp only; rw [e]
  · cases h
def outs (g : List (List Str)) : List Str := sortS (g.flatten.foldl addS [])
/-- the rows of a table -/
structure TOk (g : List (List Str)) : Prop where
  h1 : 1 ≤ g.length
  h2 : g.length ≤ 8
  w1 : 1 ≤ wid g
  w2 : wid g ≤ 8
  eq : ∀ r ∈ g, r.length = wid g
  ok : ∀ r ∈ g, ∀ x ∈ r, validN x = true
  few : (outs g).length ≤ 6
theorem addS_mem {acc : List Str} {x y : Str} : y ∈ addS acc x ↔ y ∈ acc ∨ y = x := by
  unfold addS
  split
  · rename_i h
    constructor
    · exact fun z => .inl z
    · rintro (z | rfl)
      · exact z
      · first | exact h | simpa using h
  · simp [or_comm]
theorem fold_mem {l acc : List Str} {y : Str} : y ∈ l.foldl addS acc ↔ y ∈ acc ∨ y ∈ l := by
  induction l generalizing acc with
  | nil => simp
  | cons a l ih => rw [List.foldl_cons, ih, addS_mem, List.mem_cons, or_assoc]
theorem addS_nodup {acc : List Str} {x : Str} (h : acc.Nodup) : (addS acc x).Nodup := by
  unfold addS
  split
  · exact h
  · rename_i hx
    exact List.nodup_cons.mpr ⟨hx, h⟩
theorem fold_nodup {l acc : List Str} (h : acc.Nodup) : (l.foldl addS acc).Nodup := by
  induction l generalizing acc with
  | nil => exact h
  | cons a l ih => exact ih (addS_nodup h)
theorem outs_mem {g : List (List Str)} {x : Str} : x ∈ outs g ↔ ∃ r ∈ g, x ∈ r := by
  unfold outs
  rw [(sortS_perm _).mem_iff, fold_mem]
  simp [List.mem_flatten]
theorem outs_nodup {g : List (List Str)} : (outs g).Nodup := (sortS_perm _).nodup_iff.mpr (fold_nodup List.nodup_nil)
theorem nodup_sub_len {l m : List Str} (h : l.Nodup) (hs : ∀ x ∈ l, x ∈ m) : l.length ≤ m.length := by
  induction l generalizing m with
  | nil => simp
  | cons a l ih =>
    rw [List.nodup_cons] at h
    have ha : a ∈ m := hs a (by simp)
    have := ih h.2 (m := m.erase a) fun x hx => by
      have hne : x ≠ a := fun z => h.1 (z ▸ hx)
      exact (List.mem_erase_of_ne hne).mpr (hs x (by simp [hx]))
    rw [List.length_erase_of_mem ha] at this
    have hp : 0 < m.length := List.length_pos_iff.mpr (fun z => by rw [z] at ha; cases ha)
    rw [List.length_cons]; omega
theorem GB.tok {W : List Str} {g : List (List Str)} (h : GB W 8 g) (hW : WOk W) : TOk g := ⟨h.h1, h.h2, h.w1, h.w2, h.eq, fun r hr x hx => hW.ok x (h.mem r hr x hx), by
  have := nodup_sub_len (outs_nodup (g := g)) (m := W) fun x hx => by
    obtain ⟨r, hr, hx⟩ := outs_mem.mp hx
    exact h.mem r hr x hx
  rw [hW.len] at this; exact this⟩
def tabD (C : Cs) (g : List (List Str)) : D := .ins C.T [("rows", rowsD g), ("columns", rowsD (flip g)), ("names", .tup ((outs g).map .str))]
end DV
local macro_rules | `(tactic| walk_at "dv") => `(tactic| try simp only [DV.dSeq, DV.dIf, DV.dOrT, DV.dAndT, DV.dNotT, DV.dTest, DV.dChain, DV.dC, DV.dCall, DV.gLen, DV.dCons, DV.dVar, DV.dNil, DV.dBin, DV.dUn, DV.gNeg, DV.gIn, DV.gIx, DV.dRet, DV.dRetN, DV.dNext, DV.dFor, DV.dIter, DV.dName, DV.lk, DV.dAsg, DV.dDrop, DV.gLst, DV.gTup, DV.gLstM, DV.gAdd, DV.gI, DV.gMod, DV.gMul, DV.gFdiv, DV.gPow, DV.gAbs, DV.gInt, DV.gList, DV.gTuple, DV.dOp, DV.dOpK, DV.dIsi, DV.tyD, DV.gIs, DV.gIsNot, DV.D.isN, DV.dJoin, DV.dCellM, DV.dSetI, DV.dSlice, DV.dPart, DV.dNoPart, DV.dRevA, DV.dFin, DV.dAugI, DV.dComp, DV.wipeG, DV.cName, DV.cPair, DV.dYes, DV.dRange1, DV.dRange2, DV.dAnd, DV.dOr, DV.dNot, DV.dIfE, DV.gEq, DV.gNe, DV.sgn_one, DV.atI_zero, DV.dTruth, DV.truD, DV.dBreak, DV.dCont, DV.gSorted, DV.dSortK, DV.dRevT, DV.gInD, DV.gIsB, DV.gStr, DV.dPop0, DV.dDict, DV.dPairs, DV.keysD, DV.keyOfD, DV.dFinD, DV.dFld, DV.dSetF, DV.dMake, DV.dMethod, DV.dProp, DV.dOwnIx, DV.dNever, DV.dRaise, DV.dRaise0, DV.gMulM, DV.gAddM, DV.gMax2, DV.dPair, DV.gDGet, DV.dSetD, DV.dDict0, DV.dComp2, DV.dSortSC, DV.isIns, DV.insOf,
  List.getElem?_cons_zero, List.getElem?_cons_succ, List.set_cons_zero, List.set_cons_succ, List.map_cons, List.map_nil, List.length_cons, List.length_nil, List.replicate, Nat.sub_self, List.append_nil, List.cons_append, List.nil_append, DV.start0, if_true, if_false, Bool.not_true, Bool.not_false, Bool.false_eq_true, Bool.true_and, Bool.and_true, Bool.or_true, Bool.true_or, Bool.false_or, Bool.or_false, eq_self_iff_true, not_true_eq_false, not_false_eq_true, ite_true, ite_false, cond_true, cond_false])
namespace DV
open PySem PySem.Spec PyProof.Rows L2
theorem deq_str {μ : Mu} {a b : Str} (ha : asc a) (hb : asc b) : deqOk μ (.str a) (.str b) ∧ deq μ (.str a) (.str b) = decide (a = b) := by
  refine ⟨⟨asc_ok ha, asc_ok hb⟩, ?_⟩
  unfold deq
  show PyData.eqv (.str a) (.str b) = _
  simp only [PyData.eqv]
  by_cases h : a = b
  · subst h; simp
  · simp [h]
def t_check_number : DTS := dIf (dNotT (dTest (dChain (fun i j => decide (i ≤ j)) (fun i j => decide (i ≤ j)) (dC (.int 1)) (dVar 0) (dC (.int 6))))) (dRaise .BadCount "count" (dVar 0)) (dNext)
def t_check_length : DTS := dIf (dNotT (dTest (dChain (fun i j => decide (i ≤ j)) (fun i j => decide (i ≤ j)) (dC (.int 1)) (dVar 0) (dC (.int 8))))) (dRaise .BadCount "count" (dVar 0)) (dNext)
def S_exchanged : DSp := fun ds μ Q _ => ∃ d g, ds = [d] ∧ TSee μ d g ∧ 1 ≤ g.length ∧ g.length ≤ 1000 ∧ wid g ≤ 1000 ∧ (∀ r ∈ g, r.length = wid g) ∧ Q (rowsD (flip g)) μ
def t_exchanged : DTS := dRet (dCall gTuple (dCons (dComp true [1] (dRange1 (dCall gLen (dCons (dBin gIx (dVar 0) (dC (.int 0))) dNil))) (cName 1) (dYes) (dCall gTuple (dCons (dComp true [2] (dIter (dVar 0)) (cName 2) (dYes) (dBin gIx (dVar 2) (dVar 1))) dNil))) dNil))
theorem rd_exchanged {n1 n2 n3 : Str} : ∀ ds μ Q E, S_exchanged ds μ Q E → t_exchanged (dFn μ Q E) (start0 [n1, n2, n3] ds) μ := by
  rintro _ μ Q E ⟨d, g, rfl, ⟨rows, r1, r2, r3⟩, a1, a2, a4, heq, q⟩
  obtain ⟨s0, hs0, hw⟩ : ∃ s, g[0]? = some s ∧ s.length = wid g := by
    cases g with
    | nil => exact absurd a1 (by simp)
    | cons s r => exact ⟨s, rfl, rfl⟩
  obtain ⟨r0, hr0, q0⟩ := r3 0 s0 hs0
  have ix0 : ∀ Q', gIx d (.int 0) μ Q' = Q' r0 μ := fun Q' => sq_ix r1 hr0 Q'
  unfold t_exchanged
  simp only [dRet, dCall, dCons, dNil, dComp, dRange1, dBin, dVar, dC, start0, List.map_cons, List.map_nil, List.length_cons, List.length_nil, List.replicate, List.cons_append, List.nil_append, List.getElem?_cons_zero, ix0, sq_len q0]
  refine ⟨by rw [List.length_map]; omega, ?_⟩
  simp only [wipeG, List.set_cons_succ, List.set_cons_zero]
  rw [List.length_map, hw]
  refine comp_list ((flip g).map fun s => .tup (s.map .str)) trivial (by rw [irng_len, List.length_map, flip_len]; rfl) (by rw [irng_len, sizeLine_eq]; omega) ?_ ?_
  · intro k x y hx hy K1 K2 k1
    obtain ⟨hk, rfl⟩ := irng_get hx
    have hk : k < wid g := by simpa using hk
    rw [List.getElem?_map, flip_get hk] at hy
    cases hy
    simp only [cName, dYes, cond_true, List.set_cons_succ, List.set_cons_zero, dCall, dCons, dNil, dComp]
    obtain ⟨src, hG, hi⟩ := sq_iter (Γ := [some d, some (.int (0 + (k : Int))), none]) (fa := dVar 0) r1 (fun _ _ => rfl)
    rw [hi]
    simp only [wipeG, List.set_cons_succ, List.set_cons_zero]
    refine comp_list ((g.map fun r => r.getD k Str.empty).map .str) hG (by rw [r2]; simp) (by rw [r2, sizeLine_eq]; omega) ?_ ?_
    · intro i r y hr hy L1 L2 l1
      have hil : i < g.length := by rw [← r2]; exact (List.getElem?_eq_some_iff.mp hr).1
      obtain ⟨r', e1, e2⟩ := r3 i g[i] (List.getElem?_eq_getElem hil)
      rw [hr] at e1; cases e1
      rw [List.getElem?_map, List.getElem?_map, List.getElem?_eq_getElem hil] at hy
      cases hy
      have hsl : k < g[i].length := by rw [heq _ (List.getElem_mem hil)]; exact hk
      simp only [cName, dYes, cond_true, dBin, dVar, List.set_cons_succ, List.set_cons_zero, List.getElem?_cons_zero, List.getElem?_cons_succ, Int.zero_add]
      rw [sq_ix e2 (x := .str (g[i].getD k Str.empty)) (by rw [List.getElem?_map, List.getElem?_eq_getElem hsl, List.getD_eq_getElem?_getD, List.getElem?_eq_getElem hsl]; rfl)]
      exact l1
    · exact k1
  · exact FnEnd.here q
end DV
namespace DV
open PySem PySem.Spec PyProof.Rows L2
theorem sc_inner {src : Option (Nat × List D)} {Γ : Gam} {μ : Mu} {i : Nat} (hG : Gd src μ) (hi : i < Γ.length) : ∀ (s acc : List Str) (Q : List Str → Mu → Prop), acc.length + s.length < 1000 → Q (s.foldl addS acc) μ →
    dScL src (cName i) (dVar i) Γ (s.map .str) acc μ Q
  | [], acc, Q, _, q => ⟨hG, q⟩
  | x :: s, acc, Q, hl, q => by
    rw [List.length_cons] at hl
    refine ⟨hG, ?_⟩
    simp only [cName, dVar, List.getElem?_set_self hi]
    have hb : acc.length + 1 < scanBound := Nat.lt_of_lt_of_le (show acc.length + 1 < 1000 by omega) (by decide)
    have ha : (addS acc x).length ≤ acc.length + 1 := by unfold addS; split <;> simp
    exact ⟨hb, sc_inner hG hi s (addS acc x) Q (by omega) q⟩
theorem sc_outer {src : Option (Nat × List D)} {Γ : Gam} {μ : Mu} {i j : Nat} (hG : Gd src μ) (hi : i < Γ.length) (hj : j < Γ.length) (hij : i ≠ j) : ∀ (rows : List D) (g : List (List Str)) (acc : List Str) (Q : List Str → Mu → Prop), rows.length = g.length → (∀ (k : Nat) s, g[k]? = some s → ∃ r, rows[k]? = some r ∧ seqOf μ r = some (s.map .str)) → acc.length + g.flatten.length < 1000 → Q (g.flatten.foldl addS acc) μ →
    dScO src (cName i) (dIter (dVar i)) (cName j) (dVar j) [j] Γ rows acc μ Q
  | [], [], acc, Q, _, _, _, q => ⟨hG, q⟩
  | [], _ :: _, _, _, h, _, _, _ => by simp at h
  | _ :: _, [], _, _, h, _, _, _ => by simp at h
  | r :: rows, s :: g, acc, Q, h, h3, hl, q => by
    rw [List.flatten_cons, List.length_append] at hl
    refine ⟨hG, ?_⟩
    obtain ⟨r', e1, e2⟩ := h3 0 s rfl
    cases e1
    simp only [cName]
    obtain ⟨src2, hG2, hi2⟩ := sq_iter (Γ := Γ.set i (some r)) (fa := dVar i) e2 (fun Q E => by unfold dVar; rw [List.getElem?_set_self hi])
    rw [hi2]
    have ha : ∀ (s acc : List Str), (s.foldl addS acc).length ≤ acc.length + s.length := fun s => by
      induction s with
      | nil => simp
      | cons x s ih =>
        intro acc
        have h1 := ih (addS acc x)
        have h2 : (addS acc x).length ≤ acc.length + 1 := by unfold addS; split <;> simp
        rw [List.foldl_cons, List.length_cons]; omega
    refine sc_inner hG2 (by simp [wipeG]; exact hj) s acc _ (by omega) ?_
    refine sc_outer hG hi hj hij rows g (s.foldl addS acc) Q (by simpa using h) (fun k t e => h3 (k + 1) t (by simpa using e)) (by have := ha s acc; omega) ?_
    rw [← List.foldl_append]; exact q
theorem flat_len {g : List (List Str)} {w : Nat} (h : ∀ r ∈ g, r.length = w) : g.flatten.length = g.length * w := by
  induction g with
  | nil => simp
  | cons s g ih => rw [List.flatten_cons, List.length_append, h s (by simp), ih (fun r hr => h r (by simp [hr])), List.length_cons, Nat.add_mul]; omega
def tabF (g : List (List Str)) : List (Str × D) := [("rows", rowsD g), ("columns", rowsD (flip g)), ("names", .tup ((outs g).map .str))]
end DV
namespace DV
open PySem PySem.Spec PyProof.Rows L2
def cell (g : List (List Str)) (i j : Nat) : Str := (g.getD i []).getD j Str.empty
theorem look_rows {g : List (List Str)} : List.lookup (Str.ofString "rows") [(Str.ofString "rows", rowsD g), (Str.ofString "columns", rowsD (flip g)), (Str.ofString "names", .tup ((outs g).map .str))] = some (rowsD g) := rfl
end DV
namespace DV
open PySem PySem.Spec PyProof.Rows L2
theorem comp_listA {src : Option (Nat × List D)} {g : D → Gam → Mu → (Gam → Prop) → Prop} {tt : DTT} {te : DTE} {Γ : Gam} {μ : Mu} {Q : List D → Mu → Prop} (ys : List D) {ds acc : List D} (hG : Gd src μ) (hl : ds.length = ys.length) (hs : acc.length + ds.length ≤ sizeLine)
    (step : ∀ (i : Nat) d y, ds[i]? = some d → ys[i]? = some y → ∀ (K1 : D → Mu → Prop) (K2 : Mu → Prop), K1 y μ → g d Γ μ fun Γ1 => tt Γ1 μ (fun b μ2 => cond b (te Γ1 μ2 K1 fun _ _ => False) (K2 μ2)) fun _ _ => False) (q : Q (acc ++ ys) μ) : dCompL src g tt te Γ ds acc μ Q := by
  refine comp_invA (fun i a μ' => a = acc ++ ys.take i ∧ μ' = μ) ds acc μ 0 ?_ hs ⟨by simp, rfl⟩ ?_
  · rintro i d a μ' hd ⟨rfl, rfl⟩
    rw [Nat.zero_add]
    have hi : i < ys.length := by rw [← hl]; exact (List.getElem?_eq_some_iff.mp hd).1
    refine ⟨hG, fun K1 K2 k1 k2 => step i d ys[i] hd (List.getElem?_eq_getElem hi) K1 K2 (k1 _ _ ⟨?_, rfl⟩)⟩
    rw [List.take_succ, List.getElem?_eq_getElem hi, List.append_assoc]; rfl
  · rintro a μ' ⟨rfl, rfl⟩
    rw [Nat.zero_add, hl, List.take_length]
    exact ⟨hG, q⟩
/-! the law's own look -/
end DV
/-! enumerate of a tuple, at the library's level and above. -/
namespace PySem
open Sem (wp)
open AutoSeq1 (wpAny_loadPart')
end PySem
namespace DV
open PySem PySem.Spec PyProof.Rows L2
end DV
/-! any, all, isinstance with an own class, chains of three. -/
namespace DV
open PySem PySem.Spec PyProof.Rows L2
section
variable {X : Cx} {W : WX} {a b c d : Expr} {p pos : Pos} {fa fb fc fd : DTE}
/-! ### isinstance(x, C) -/
structure IsiC (K : PySem.W.Frag) (C : Addr) : Prop where
  cl : Cls K C
  ha : PySem.W.findIn K (.ref C) "__class__" = some (some (.builtin "object.__class__"))
  hn : PySem.W.specialIn K (.builtin "object.__class__") "__get__" = some (some (.builtin "getset_descriptor.__get__"))
  htk : PySem.W.takesIn K (.builtin "object.__class__") = some true
  hm : PySem.W.mroIn K C (.type "object") = some true
  no : ∀ t : Ty, PySem.W.kitOne K (.type t.nm) (.ref C) = some false
def tysL : List Ty := [.non, .bool, .int, .str, .list, .tup, .dict]
def isiB (x : Str) (K : PySem.W.Frag) : Bool := (He.Fa.cls x).ok K && (He.eqO (PySem.W.findIn K (.ref (He.ga K x)) "__class__") (some (some (.builtin "object.__class__"))) && (He.eqO (PySem.W.specialIn K (.builtin "object.__class__") "__get__") (some (some (.builtin "getset_descriptor.__get__"))) &&
  (decide (PySem.W.takesIn K (.builtin "object.__class__") = some true) && (decide (PySem.W.mroIn K (He.ga K x) (.type "object") = some true) && tysL.all fun t => decide (PySem.W.kitOne K (.type t.nm) (.ref (He.ga K x)) = some false)))))
theorem isiB_ok {x : Str} {K : PySem.W.Frag} (h : isiB x K = true) : IsiC K (He.ga K x) := by
  obtain ⟨h1, h⟩ := He.ba h
  obtain ⟨h2, h⟩ := He.ba h
  obtain ⟨h3, h⟩ := He.ba h
  obtain ⟨h4, h⟩ := He.ba h
  obtain ⟨h5, h6⟩ := He.ba h
  exact ⟨He.cls_ok h1, He.eqO_ok h2, He.eqO_ok h3, of_decide_eq_true h4, of_decide_eq_true h5, fun t => of_decide_eq_true (List.all_eq_true.mp h6 t (by cases t <;> simp [tysL]))⟩
def dIsiC (C : Addr) (f : DTE) : DTE := fun Γ μ Q E => f Γ μ (fun d μ1 => match lk μ1 d with
  | .ins C' _ => C' = C ∧ Q (.bl true) μ1
  | e => (match tyD e with
    | some _ => Q (.bl false) μ1
    | none => False)) E
theorem de_isiC {C : Addr} {T : Str} {p2 : Pos} (i : IsiC X.K C) (hg : Gl X "isinstance") (hm : X.mg "isinstance" = none) (ha : DE X W a fa) (hgT : Gl X T) (hmT : X.mg T = some (.ref C)) (hd : (T == ("__debug__" : Str)) = false := by decide)
    (hs : starEach [a, .Name T p2] X.env = (false, eval a X.env) :: starEach [.Name T p2] X.env := by rfl) (hs2 : starEach [.Name T p2] X.env = (false, eval (.Name T p2) X.env) :: starEach [] X.env := by rfl) (hpl : (backTo pos (starEach [.Name T p2] X.env)).any (·.1) = false := by rfl) :
    DE X W (.Call (.Name "isinstance" p) [a, .Name T p2] [] pos) (dIsiC C fa) :=
  PE.imp (pe_callB call_isi hg hm (by decide +kernel) (pa_cons ha (pa_cons (pe_glob (v := .ref C) hgT hmT rfl hd) pa_nil hs2) hs) (by decide) (by decide) hs hpl) fun σ H Q ⟨n, Γ, μ, Qd, Ed, hH, sr, gr, h, hq, hx⟩ => by
  subst hH
  refine lift_go sr gr h (fun n1 x dx μ1 s1 r1 p1 q1 => ?_) hx
  try dsimp only at q1
  split at q1
  · rename_i C' fs e
    obtain ⟨rfl, q1⟩ := q1
    obtain ⟨a, dx, us, rfl, h1, _⟩ := see_ins r1 p1 e
    exact ⟨_, _, _, _, true, rfl, .own _, .base (.ins h1 i.cl i.ha i.hn i.htk i.hm), by unfold PySem.W.kitOne; simp, hq n1 _ _ μ1 s1 r1 (.bl _) q1⟩
  · split at q1
    · rename_i t e
      exact ⟨_, _, _, _, false, rfl, .own _, ty_of r1 p1 e, i.no t, hq n1 _ _ μ1 s1 r1 (.bl _) q1⟩
    · exact q1.elim
/-! ### a chain of three -/
end
end DV
namespace DV
open PySem PySem.Spec PyProof.Rows L2
theorem FnExc.here {μ : Mu} {x : Exn} {E : Exn → Mu → Prop} (hp : D.puF x.fs = true) (h : E x μ) : FnExc μ x μ E := ⟨μ, [], by simp, Upd.refl μ, hp, h⟩
end DV
namespace DV
open PySem PySem.Spec PyProof.Rows L2
def untup : D → List Str
  | .tup xs => xs.filterMap fun d => match d with | .str x => some x | _ => none
  | _ => []
def setsS (xs : List Str) : List (List Str) := (setsD xs).map untup
def rest (xs w : List Str) : List Str := xs.filter fun x => decide (x ∉ w)
end DV
namespace DV
open PySem PySem.Spec PyProof.Rows L2
theorem puF_tab {g : List (List Str)} : D.puF (tabF g) = true := by
  have s : ∀ l : List Str, D.puL (l.map D.str) = true := fun l => by rw [puL_iff]; intro x hx; obtain ⟨y, _, rfl⟩ := List.mem_map.mp hx; rfl
  have r : ∀ g : List (List Str), (rowsD g).pu = true := fun g => by
    show D.puL _ = true
    rw [puL_iff]; intro x hx; obtain ⟨y, _, rfl⟩ := List.mem_map.mp hx; exact s y
  show ((rowsD g).pu && ((rowsD (flip g)).pu && (D.puL ((outs g).map D.str) && true))) = true
  rw [r, r, s]; rfl
theorem tab_ins {C : Cs} {g : List (List Str)} : D.ins C.T (tabF g) = tabD C g := rfl
/-! ### copied -/
/-! ### Verdict -/
/-! ### judge -/
/-- a promise that nobody can ask for -/
theorem never_ok {P : Program} {w : World} {K : PySem.W.Frag} {mg : Str → Option Value} {base : Heap} {k : Nat} {f : Addr} {fd : FuncData} {ps : List Str} {S : DSp} (h : ∀ ds μ Q E, ¬ S ds μ Q E) : FnOk P w K mg base (L2.CX P w) k f fd ps (spOf K S) :=
  ⟨fun vs H Q E ⟨_, _, _, _, _, _, _, _, q, _⟩ => absurd q (h _ _ _ _), fun A outer s H args us vs Q E _ _ _ _ ⟨_, _, _, _, _, _, _, _, q, _⟩ => absurd q (h _ _ _ _)⟩
end DV
namespace DV
open PySem PySem.Spec PyProof.Rows L2
end DV
namespace DV
open PySem PySem.Spec PyProof.Rows L2
end DV
namespace DV
open PySem PySem.Spec PyProof.Rows L2
theorem eqv_tup (a b : List PyData) : PyData.eqv (.tuple a) (.tuple b) = PyData.eqv (.list a) (.list b) := by simp only [PyData.eqv]
theorem okn_tupS {r : List Str} (h : ∀ x ∈ r, asc x) (k : Nat) : D.okn (k + 1) (tupS r) = true := okn_strs h k
/-! ### turned, slim -/
theorem tok_mk {g g' : List (List Str)} (h : TOk g) (w : Nat) (h1 : 1 ≤ g'.length) (h2 : g'.length ≤ 8) (w1 : 1 ≤ w) (w2 : w ≤ 8) (eq : ∀ r ∈ g', r.length = w) (sub : ∀ r ∈ g', ∀ x ∈ r, ∃ s ∈ g, x ∈ s) : TOk g' := by
  have hw : wid g' = w := by
    unfold wid
    match g', h1, eq with
    | r :: _, _, eq => exact eq r (by simp)
  refine ⟨h1, h2, by omega, by omega, fun r hr => by rw [hw]; exact eq r hr, fun r hr x hx => ?_, ?_⟩
  · obtain ⟨s, hs, hx⟩ := sub r hr x hx
    exact h.ok s hs x hx
  · refine Nat.le_trans (nodup_sub_len outs_nodup fun x hx => ?_) h.few
    obtain ⟨r, hr, hx⟩ := outs_mem.mp hx
    exact outs_mem.mpr (sub r hr x hx)
theorem flip_mem {g : List (List Str)} (he : ∀ r ∈ g, r.length = wid g) {c : List Str} (h : c ∈ flip g) : c.length = g.length ∧ ∀ x ∈ c, ∃ s ∈ g, x ∈ s := by
  unfold flip at h
  obtain ⟨k, hk, rfl⟩ := List.mem_map.mp h
  have hk : k < wid g := List.mem_range.mp hk
  refine ⟨by simp, fun x hx => ?_⟩
  obtain ⟨s, hs, rfl⟩ := List.mem_map.mp hx
  refine ⟨s, hs, ?_⟩
  have : k < s.length := by rw [he s hs]; exact hk
  rw [List.getD_eq_getElem?_getD, List.getElem?_eq_getElem this]
  exact List.getElem_mem _
theorem TOk.flip {g : List (List Str)} (h : TOk g) : TOk (flip g) :=
  tok_mk h g.length (by rw [flip_len]; exact h.w1) (by rw [flip_len]; exact h.w2) h.h1 h.h2 (fun c hc => (flip_mem h.eq hc).1) (fun c hc => (flip_mem h.eq hc).2)
theorem TOk.ascm {g : List (List Str)} (h : TOk g) : ∀ r ∈ g, ∀ x ∈ r, DV.asc x := fun r hr x hx => (valid_asc (h.ok r hr x hx)).1
end DV
namespace DV
open PySem PySem.Spec PyProof.Rows L2
theorem str_ext2 {a b : Str} (h : a.cps.toList = b.cps.toList) : a = b := by
  cases a; cases b
  simp only at h
  congr 1
  exact Array.ext' h
end DV
namespace DV
open PySem PySem.Spec PyProof.Rows L2
end DV
/-! Dicts: k in d, dict(d), list(d), tuple(d), sorted(d). -/
namespace PySem
open Sem (wp)
open AutoSeq1 (wpAny_loadPart')
end PySem
namespace DV
open PySem PySem.Spec PyProof.Rows L2
end DV
/-! set(xs) of texts; sorted(set(xs)). -/
namespace DV
open PySem PySem.Spec PyProof.Rows L2 PySem.Froz
section
variable {P : Program} {w : World} {A : Around} {E : Value → Shared → Prop} {s : Shared} {a : Addr} {l : List Str}
theorem setT_hashed {k : Str} {u : Tok} {Q : Bool → Shared → Prop} (r : SetT P w s.heap a l) (room : l.length + 1 < scanBound)
    (hQ : ∀ b h', Heap.SameBut a s.heap h' → SetT P w h' a (addS l k) → Q b { s with heap := h' }) : wpAny (model P w) A (setAddHashed a (.str k u) (hashStr w k)) Q E s := by
  obtain ⟨Dd, h1, T, nd, hb, hr, hl⟩ := r
  unfold addS at hQ
  by_cases hk : k ∈ l
  · refine add_found h1 T hk hb ?_
    refine hQ _ s.heap (Heap.SameBut.refl a s.heap) ?_
    rw [if_pos hk]
    exact ⟨Dd, h1, T, nd, hb, hr, hl⟩
  · refine add_x h1 T hk room ?_
    refine hQ _ _ (Heap.SameBut.update s.heap a _) ?_
    rw [if_neg hk]
    refine ⟨addTx (hashStr w k) (.str k u) Dd, get_upd _ h1 rfl, add_ok u T, List.nodup_cons.mpr ⟨hk, nd⟩, room, ?_, ?_⟩
    · unfold addTx
      refine tail_ris ?_
      split
      · exact layNew_ris _ _ _ _ hr
      · exact layNew_ris _ _ _ _ hr
    · refine hl.imp id fun z => ?_
      unfold addTx
      rw [tail_led]
      split
      · exact (layNew_led _ _ _ _).trans z
      · exact (layNew_led _ _ _ _).trans z
theorem addS_len (l : List Str) (k : Str) : (addS l k).length ≤ l.length + 1 := by
  unfold addS; split <;> simp
theorem foldS_len : ∀ (ks l : List Str), (ks.foldl addS l).length ≤ l.length + ks.length
  | [], l => by simp
  | k :: ks, l => by
    have := foldS_len ks (addS l k)
    have := addS_len l k
    simp only [List.foldl_cons, List.length_cons]; omega
theorem set_update_txts {I : Addr} {fp wr : List Addr} {G : Array GenState → Array GenState → Prop} {n : Nat} {Pv : Nat → Value → Prop} {St : Nat → Shared → Prop} {R : Result → Shared → Prop}
    (W : WalksS P w A.in1 I fp wr G n Pv St) (S : Addr) (hSf : S ∉ fp) (ks : List Str) (hn : n = ks.length) (hb : ks.length + 1 < scanBound) (hval : ∀ i v, Pv i v → ∃ k t, ks[i]? = some k ∧ v = .str k t) :
    ∀ (k i : Nat) (s : Shared), n - i = k → i ≤ n → St i s → SetT P w s.heap S ((ks.take i).foldl addS []) →
      (∀ s', Moved (S :: wr) G s s' → SetT P w s'.heap S (ks.foldl addS []) → R (.ok (.ret .none)) s') →
      codeAny (model P w) A (.builtin "set.update.loop" ⟨[.ref S, .ref I], []⟩) R s := by
  have hSw : S ∉ wr := fun h => hSf (W.sub _ h)
  have hsub : ∀ b ∈ wr, b ∈ S :: wr := fun b hb => List.mem_cons_of_mem _ hb
  intro k
  induction k with
  | zero =>
    intro i s hk' hi hst hS hR
    have hin : i = n := by omega
    subst hin
    refine codeAny_builtin F.entry_set_update_loop ?_
    rw [Around.under_plainId F.plain_set_update_loop _]
    show wpAny _ A.in1 (pyNext (.ref I) >>= _) _ _ s
    refine wpAny_bind (W.done s _ _ hst fun s' hm => ?_)
    show wpAny _ A.in1 (ret Value.none) _ _ s'
    have e : ks.take i = ks := List.take_of_length_le (by omega)
    rw [e] at hS
    exact wpAny_pure (hR s' (hm.mono hsub) (hS.keep fun o e => hm.heap S o hSw e))
  | succ k ih =>
    intro i s hk' hi hst hS hR
    have hlt : i < n := by omega
    refine codeAny_builtin F.entry_set_update_loop ?_
    rw [Around.under_plainId F.plain_set_update_loop _]
    show wpAny _ A.in1 (pyNext (.ref I) >>= _) _ _ s
    refine wpAny_bind (W.item i s _ _ hlt hst fun v s' hP hst' hm => ?_)
    obtain ⟨z, t, hz, rfl⟩ := hval i v hP
    have hS' : SetT P w s'.heap S ((ks.take i).foldl addS []) := hS.keep fun o e => hm.heap S o hSw e
    have hlen : ((ks.take i).foldl addS []).length + 1 < scanBound := by
      have := foldS_len (ks.take i) []
      rw [List.length_take, List.length_nil] at this
      omega
    show wpAny _ A.in1 (holding [Value.str z t] (setAdd S (.str z t)) >>= _) _ _ s'
    refine wpAny_bind (wpAny_holding ?_)
    unfold setAdd
    refine wpAny_holding ?_
    refine wpAny_bind ((PySem.strKind P w).pyHash (k := z) (is_str z t) ?_)
    refine setT_hashed (s := { s' with toks := s'.toks + 1 }) hS' hlen fun b h' hsb hS2 => ?_
    have hS3 : SetT P w h' S ((ks.take (i + 1)).foldl addS []) := by
      rw [List.take_add_one, hz]
      simpa [List.foldl_append] using hS2
    refine wpAny_pure ⟨plainId_quiet F.plain_set_update_loop _, ih (i + 1) _ (by omega) hlt (W.frame _ s' _ _ hst' (Nat.le_succ _) fun b hb o e => ?_) hS3 fun s'' hm'' hS'' => ?_⟩
    · rw [hsb.2 b (fun h : b = S => hSf (by rw [← h]; exact hb))]; exact e
    · refine hR s'' (Moved.trans W.gtrans ((hm.mono hsub).then_heap (Nat.le_succ _) fun b o hb e => ?_) hm'') hS''
      rw [hsb.2 b (fun h : b = S => hb (by rw [h]; exact List.mem_cons_self))]; exact e
end
section
variable {P : Program} {w : World} {A : Around} {E : Value → Shared → Prop} {s : Shared}
theorem txts_at : ∀ {us : List Value} {ks : List Str}, Vals (ks.map V.str) us → ∀ (i : Nat) v, us[i]? = some v → ∃ k t, ks[i]? = some k ∧ v = .str k t
  | _, [], .nil => fun i v h => by simp at h
  | _, k :: ks, .cons r t => fun i v h => by
    cases i with
    | zero =>
      simp at h; subst h
      obtain ⟨tk, rfl⟩ := r
      exact ⟨k, tk, rfl, rfl⟩
    | succ i => exact txts_at t i v (by simpa using h)
set_option maxHeartbeats 3200000 in
theorem call_set_listS {l : Addr} {items : Array Value} (ks : List Str) {Q : Value → Shared → Prop} (hh : A.handled = none) (hl : s.heap.IsList l items) (hit : Vals (ks.map V.str) items.toList) (hb : ks.length + 1 < scanBound)
    (h : ∀ (h' : Heap) (tk : Nat), SetT P w h' s.heap.objs.size (ks.foldl addS []) → (∀ b o, s.heap.get? b = some o → h'.get? b = some o) → Q (.ref s.heap.objs.size) { s with heap := h', toks := tk }) :
    wpAny (model P w) A (call (.type "set") [.ref l]) Q E s := by
  have hisz : items.size = ks.length := by
    have q := hit.length
    simpa using q.symm
  obtain ⟨c, tl, hmro⟩ := F.called_set.mro
  have hmade := F.called_set.made
  have hsub := F.called_set.sub
  refine wpAny_call (codeAny_of_tree ?_)
  show wpAny _ _ (callAny (.type "set") _) _ _ _
  refine wpAny_pure ⟨Code.quiet_builtin _ (by decide +kernel), codeAny_builtin F.entry_type_call ?_⟩
  rw [Around.under_plain (weight_type_call_type "set" [.ref l] []) rfl]
  have h1 := F.called_set.notType
  have h2 := F.called_set.canCreate
  have hct := F.typeCall_set_1 (.ref l)
  repeat (any_goals (first | assumption | wp_step))
  refine codeAny_mono (code_set_led1 (.ref l) (E := E) (Q₁ := fun obj s₁ => obj = .ref s.heap.objs.size ∧ s₁ = { s with heap := s.heap.push { cls := .type "set", dict := none, data := .set #[] 0 (.fresh 0 0 (!w.params.followText "set-order")) } }) ⟨rfl, rfl⟩) fun r s₁ hr => ?_
  cases r with
  | error e => exact hr
  | ok fl =>
    cases fl with
    | ret obj =>
      obtain ⟨rfl, rfl⟩ := hr
      have hS : (s.heap.push { cls := .type "set", dict := none, data := .set #[] 0 (.fresh 0 0 (!w.params.followText "set-order")) }).get? s.heap.objs.size = some { cls := .type "set", dict := none, data := .set #[] 0 (.fresh 0 0 (!w.params.followText "set-order")) } := Heap.get?_push_size _ rfl
      have hT : Shared.TypeIs { s with heap := s.heap.push { cls := .type "set", dict := none, data := .set #[] 0 (.fresh 0 0 (!w.params.followText "set-order")) } } (.ref s.heap.objs.size) "set" := ⟨_, hS, rfl⟩
      have hli := F.called_set.init.lookup
      have hbi := F.called_set.init.bind (.ref s.heap.objs.size)
      repeat (any_goals (first | assumption | wp_step))
      refine codeAny_mono (codeAny_call_builtin (R := wants (fun r s₂ => r = .none ∧ ∃ h' tk, s₂ = { s with heap := h', toks := tk } ∧ SetT P w h' s.heap.objs.size (ks.foldl addS []) ∧
          (∀ b o, s.heap.get? b = some o → h'.get? b = some o)) E) F.called_set.init.plain F.entry_set_init (check_set_init_1 hT ?_)) fun r₂ s₂ hr₂ => ?_
      · obtain ⟨ol, hol, hcl, nl, hdl⟩ := hl
        obtain ⟨ocls, odict, odata, oslots⟩ := ol
        simp only at hcl hdl
        subst hcl; subst hdl
        have hol' : (s.heap.push { cls := .type "set", dict := none, data := .set #[] 0 (.fresh 0 0 (!w.params.followText "set-order")) }).get? l = some { cls := .type "list", dict := odict, data := .seq items nl, slots := oslots } := Heap.get?_push_of_some _ hol
        have hsls := F.sub_list_set
        have hslf := F.sub_list_frozenset
        have hne : (Value.type "list" == Value.type "dict") = false := by decide
        have hl1 : (s.heap.push { cls := .type "set", dict := none, data := .set #[] 0 (.fresh 0 0 (!w.params.followText "set-order")) }).IsList l items := ⟨_, hol', rfl, nl, rfl⟩
        unfold Builtin.«set.__init__» noKeywords Builtin.Frozenset.updateFrom
        generalize hPI : pyIter = PI
        wp_walk
        subst hPI
        refine wpAny_pyIter_list hl1 ?_
        refine wpAny_bind (wpAny_runValue ?_)
        have hlS : l < s.heap.objs.size := Heap.lt_size hol
        have hh3 : A.in1.in1.in1.handled = none := by simp [hh]
        have hneI : l ≠ (s.heap.push { cls := .type "set", dict := none, data := .set #[] 0 (.fresh 0 0 (!w.params.followText "set-order")) }).objs.size := by
          rw [Heap.size_push]; exact Nat.ne_of_lt (Nat.lt_succ_of_lt hlS)
        have hSf : s.heap.objs.size ∉ [(s.heap.push { cls := .type "set", dict := none, data := .set #[] 0 (.fresh 0 0 (!w.params.followText "set-order")) }).objs.size, l] := by
          rw [Heap.size_push]; simp only [List.mem_cons, List.mem_singleton, List.not_mem_nil, or_false, not_or]
          exact ⟨Nat.ne_of_lt (Nat.lt_succ_self _), Nat.ne_of_gt hlS⟩
        have hval : ∀ (i : Nat) (v : Value), items[i]? = some v → ∃ k t, ks[i]? = some k ∧ v = .str k t := fun i v hv => txts_at hit i v (by rw [Array.getElem?_toList]; exact hv)
        refine set_update_txts ((Walks.list hh3 _ l hneI items).toS) s.heap.objs.size
          hSf ks hisz hb hval (items.size - 0) 0 _ (by omega) (Nat.zero_le _)
          ⟨⟨_, Heap.get?_push_size _ rfl, rfl, rfl⟩, (hl1.push _)⟩ ?hS0 ?hR
        case hS0 => exact SetT.keep setT_fresh fun o e => Heap.get?_push_of_some _ e
        case hR =>
          intro s' hm hS'
          obtain ⟨h', g2, d', tk', os'⟩ := s'
          have eg : g2 = s.gens := hm.gens
          have ed : d' = s.drawn := hm.drawn
          have eo : os' = s.os := hm.os
          subst eg; subst ed; subst eo
          show wpAny _ _ _ _ _ _
          refine wpAny_pure ?_
          show wpAny _ _ (ret Value.none) _ _ _
          refine wpAny_pure ⟨rfl, h', tk', rfl, hS', fun b o e => ?_⟩
          have hb0 : b < s.heap.objs.size := Heap.lt_size e
          have hb1 : b ≠ s.heap.objs.size := Nat.ne_of_lt hb0
          have hb2 : b ≠ (s.heap.push { cls := .type "set", dict := none, data := .set #[] 0 (.fresh 0 0 (!w.params.followText "set-order")) }).objs.size := by
            rw [Heap.size_push]; exact Nat.ne_of_lt (Nat.lt_succ_of_lt hb0)
          exact hm.heap b o (by simp only [List.mem_cons, List.mem_singleton, List.not_mem_nil, or_false, not_or]; exact ⟨hb1, hb2⟩) (Heap.get?_push_of_some _ (Heap.get?_push_of_some _ e))
      · cases r₂ with
        | error e => exact hr₂
        | ok fl₂ =>
          cases fl₂ with
          | ret r =>
            obtain ⟨rfl, h', tk, rfl, hS', hk'⟩ := hr₂
            repeat (any_goals (first | assumption | wp_step))
            exact h _ _ hS' hk'
          | _ => exact hr₂.elim
    | _ => exact hr.elim
set_option maxHeartbeats 3200000 in
theorem call_set_tupleS {l : Addr} {items : Array Value} (ks : List Str) {Q : Value → Shared → Prop} (hh : A.handled = none) (hl : s.heap.IsTuple l items) (hit : Vals (ks.map V.str) items.toList) (hb : ks.length + 1 < scanBound)
    (h : ∀ (h' : Heap) (tk : Nat), SetT P w h' s.heap.objs.size (ks.foldl addS []) → (∀ b o, s.heap.get? b = some o → h'.get? b = some o) → Q (.ref s.heap.objs.size) { s with heap := h', toks := tk }) :
    wpAny (model P w) A (call (.type "set") [.ref l]) Q E s := by
  have hisz : items.size = ks.length := by
    have q := hit.length
    simpa using q.symm
  obtain ⟨c, tl, hmro⟩ := F.called_set.mro
  have hmade := F.called_set.made
  have hsub := F.called_set.sub
  refine wpAny_call (codeAny_of_tree ?_)
  show wpAny _ _ (callAny (.type "set") _) _ _ _
  refine wpAny_pure ⟨Code.quiet_builtin _ (by decide +kernel), codeAny_builtin F.entry_type_call ?_⟩
  rw [Around.under_plain (weight_type_call_type "set" [.ref l] []) rfl]
  have h1 := F.called_set.notType
  have h2 := F.called_set.canCreate
  have hct := F.typeCall_set_1 (.ref l)
  repeat (any_goals (first | assumption | wp_step))
  refine codeAny_mono (code_set_led1 (.ref l) (E := E) (Q₁ := fun obj s₁ => obj = .ref s.heap.objs.size ∧ s₁ = { s with heap := s.heap.push { cls := .type "set", dict := none, data := .set #[] 0 (.fresh 0 0 (!w.params.followText "set-order")) } }) ⟨rfl, rfl⟩) fun r s₁ hr => ?_
  cases r with
  | error e => exact hr
  | ok fl =>
    cases fl with
    | ret obj =>
      obtain ⟨rfl, rfl⟩ := hr
      have hS : (s.heap.push { cls := .type "set", dict := none, data := .set #[] 0 (.fresh 0 0 (!w.params.followText "set-order")) }).get? s.heap.objs.size = some { cls := .type "set", dict := none, data := .set #[] 0 (.fresh 0 0 (!w.params.followText "set-order")) } := Heap.get?_push_size _ rfl
      have hT : Shared.TypeIs { s with heap := s.heap.push { cls := .type "set", dict := none, data := .set #[] 0 (.fresh 0 0 (!w.params.followText "set-order")) } } (.ref s.heap.objs.size) "set" := ⟨_, hS, rfl⟩
      have hli := F.called_set.init.lookup
      have hbi := F.called_set.init.bind (.ref s.heap.objs.size)
      repeat (any_goals (first | assumption | wp_step))
      refine codeAny_mono (codeAny_call_builtin (R := wants (fun r s₂ => r = .none ∧ ∃ h' tk, s₂ = { s with heap := h', toks := tk } ∧ SetT P w h' s.heap.objs.size (ks.foldl addS []) ∧
          (∀ b o, s.heap.get? b = some o → h'.get? b = some o)) E) F.called_set.init.plain F.entry_set_init (check_set_init_1 hT ?_)) fun r₂ s₂ hr₂ => ?_
      · obtain ⟨ol, hol, hcl, nl, hdl⟩ := hl
        obtain ⟨ocls, odict, odata, oslots⟩ := ol
        simp only at hcl hdl
        subst hcl; subst hdl
        have hol' : (s.heap.push { cls := .type "set", dict := none, data := .set #[] 0 (.fresh 0 0 (!w.params.followText "set-order")) }).get? l = some { cls := .type "tuple", dict := odict, data := .seq items nl, slots := oslots } := Heap.get?_push_of_some _ hol
        have hsls := F.sub_tuple_set
        have hslf := F.sub_tuple_frozenset
        have hne : (Value.type "tuple" == Value.type "dict") = false := by decide
        have hl1 : (s.heap.push { cls := .type "set", dict := none, data := .set #[] 0 (.fresh 0 0 (!w.params.followText "set-order")) }).IsTuple l items := ⟨_, hol', rfl, nl, rfl⟩
        unfold Builtin.«set.__init__» noKeywords Builtin.Frozenset.updateFrom
        generalize hPI : pyIter = PI
        wp_walk
        subst hPI
        refine wpAny_pyIter_tuple hl1 ?_
        refine wpAny_bind (wpAny_runValue ?_)
        have hlS : l < s.heap.objs.size := Heap.lt_size hol
        have hh3 : A.in1.in1.in1.handled = none := by simp [hh]
        have hneI : l ≠ (s.heap.push { cls := .type "set", dict := none, data := .set #[] 0 (.fresh 0 0 (!w.params.followText "set-order")) }).objs.size := by
          rw [Heap.size_push]; exact Nat.ne_of_lt (Nat.lt_succ_of_lt hlS)
        have hSf : s.heap.objs.size ∉ [(s.heap.push { cls := .type "set", dict := none, data := .set #[] 0 (.fresh 0 0 (!w.params.followText "set-order")) }).objs.size, l] := by
          rw [Heap.size_push]; simp only [List.mem_cons, List.mem_singleton, List.not_mem_nil, or_false, not_or]
          exact ⟨Nat.ne_of_lt (Nat.lt_succ_self _), Nat.ne_of_gt hlS⟩
        have hval : ∀ (i : Nat) (v : Value), items[i]? = some v → ∃ k t, ks[i]? = some k ∧ v = .str k t := fun i v hv => txts_at hit i v (by rw [Array.getElem?_toList]; exact hv)
        refine set_update_txts ((Walks.tuple hh3 _ l hneI items).toS) s.heap.objs.size
          hSf ks hisz hb hval (items.size - 0) 0 _ (by omega) (Nat.zero_le _)
          ⟨⟨_, Heap.get?_push_size _ rfl, rfl, rfl⟩, (hl1.push _)⟩ ?hS0 ?hR
        case hS0 => exact SetT.keep setT_fresh fun o e => Heap.get?_push_of_some _ e
        case hR =>
          intro s' hm hS'
          obtain ⟨h', g2, d', tk', os'⟩ := s'
          have eg : g2 = s.gens := hm.gens
          have ed : d' = s.drawn := hm.drawn
          have eo : os' = s.os := hm.os
          subst eg; subst ed; subst eo
          show wpAny _ _ _ _ _ _
          refine wpAny_pure ?_
          show wpAny _ _ (ret Value.none) _ _ _
          refine wpAny_pure ⟨rfl, h', tk', rfl, hS', fun b o e => ?_⟩
          have hb0 : b < s.heap.objs.size := Heap.lt_size e
          have hb1 : b ≠ s.heap.objs.size := Nat.ne_of_lt hb0
          have hb2 : b ≠ (s.heap.push { cls := .type "set", dict := none, data := .set #[] 0 (.fresh 0 0 (!w.params.followText "set-order")) }).objs.size := by
            rw [Heap.size_push]; exact Nat.ne_of_lt (Nat.lt_succ_of_lt hb0)
          exact hm.heap b o (by simp only [List.mem_cons, List.mem_singleton, List.not_mem_nil, or_false, not_or]; exact ⟨hb1, hb2⟩) (Heap.get?_push_of_some _ (Heap.get?_push_of_some _ e))
      · cases r₂ with
        | error e => exact hr₂
        | ok fl₂ =>
          cases fl₂ with
          | ret r =>
            obtain ⟨rfl, h', tk, rfl, hS', hk'⟩ := hr₂
            repeat (any_goals (first | assumption | wp_step))
            exact h _ _ hS' hk'
          | _ => exact hr₂.elim
    | _ => exact hr.elim
end
section
variable {X : Cx} {W : WX} {a : Expr} {p p2 pos pos2 : Pos} {fa : DTE}
def rSetS (K : PySem.W.Frag) (P : Program) (w : World) : List V → Hp → VK → Prop := fun xs H Q => ∃ (l : Addr) (ks : List Str), xs = [V.ref l] ∧ (SqL K H l (ks.map V.str) ∨ SqT K H l (ks.map V.str)) ∧ ks.length + 1 < scanBound ∧ ∀ p, H p = none → Q (.ref p) (upd H p (SetTO P w p (ks.foldl addS [])))
theorem cr_setS (hc : X.calm = true) : CallR X (.type "set") (rSetS X.K X.prog X.w) := by
  intro pins s σ H xs us Q I r h
  obtain ⟨l, ks, rfl, hl, hf, q⟩ := h
  rw [Vals.ref1 r]
  have hn : H s.heap.objs.size = none := I.hok.fresh (Nat.le_refl _)
  rcases hl with hl | hl
  · obtain ⟨its, rv, pl, hz⟩ := I.list hl
    exact call_set_listS (P := X.prog) (w := X.w) ks (I.ok.hd hc) pl.isList rv hf fun h' tk R k => ⟨.ref s.heap.objs.size, upd H s.heap.objs.size (SetTO X.prog X.w s.heap.objs.size (ks.foldl addS [])), I.laid (t' := tk) k (Nat.le_refl _) (setTO_new R), rfl, q _ hn⟩
  · obtain ⟨its, rv, pl, hz⟩ := I.tuple hl
    exact call_set_tupleS (P := X.prog) (w := X.w) ks (I.ok.hd hc) pl rv hf fun h' tk R k => ⟨.ref s.heap.objs.size, upd H s.heap.objs.size (SetTO X.prog X.w s.heap.objs.size (ks.foldl addS [])), I.laid (t' := tk) k (Nat.le_refl _) (setTO_new R), rfl, q _ hn⟩
/-- a list or tuple of texts -/
def txtsD (μ : Mu) (d : D) : Option (List Str) := match lk μ d with
  | .lst xs => xs.mapM fun x => match x with | .str z => some z | _ => none
  | .tup xs => xs.mapM fun x => match x with | .str z => some z | _ => none
  | _ => none
theorem mapM_strs : ∀ {xs : List D} {ks : List Str}, (xs.mapM fun x => match x with | D.str z => some z | _ => none) = some ks → xs = ks.map .str
  | [], ks, h => by cases h; rfl
  | x :: xs, ks, h => by
    rw [List.mapM_cons] at h
    cases x with
    | str z =>
      cases hr : (xs.mapM fun x => match x with | D.str z => some z | _ => none) with
      | none => rw [hr] at h; cases h
      | some l => rw [hr] at h; cases h; rw [mapM_strs hr]; rfl
    | _ => cases h
theorem strs_mapM : ∀ (ks : List Str), ((ks.map D.str).mapM fun x => match x with | D.str z => some z | _ => none) = some ks
  | [] => rfl
  | k :: ks => by rw [List.map_cons, List.mapM_cons, strs_mapM ks]; rfl
/-- sorted(set(xs)) -/
def gSortSet (fz : Bool) : GN := fun ds μ Q => match ds with
  | [d] => (match txtsD μ d with
    | some ks => ks.length < 1000 ∧ dFin fz ((sortS (ks.foldl addS [])).map .str) μ Q
    | none => False)
  | _ => False
theorem sset_go {K : PySem.W.Frag} {P : Program} {w : World} {fz : Bool} (σ : L2.St) (H : Hp) (Q : VK) (h : lift K W (dCall (gSortSet fz) (dCons fa dNil)) σ H Q) :
    lift K W fa σ H fun x H1 => rSetS K P w [x] H1 fun y H2 => rSortTO P w [y] H2 Q := by
  obtain ⟨n, Γ, μ, Qd, Ed, hH, sr, gr, h, hq, hx⟩ := h
  subst hH
  refine lift_go sr gr h (fun n1 x dx μ1 s1 r1 p1 q1 => ?_) hx
  have q1 : gSortSet fz [dx] μ1 Qd := q1
  unfold gSortSet at q1
  dsimp only at q1
  cases ht : txtsD μ1 dx with
  | none => rw [ht] at q1; exact q1.elim
  | some ks =>
    rw [ht] at q1
    have go : ∀ p, n1.H p = none → ∀ l, (n1.more p (SetTO P w p (ks.foldl addS []))).H l = none → Q (.ref l) (upd (upd n1.H p (SetTO P w p (ks.foldl addS []))) l (.lst ((sortS (ks.foldl addS [])).map V.str))) := fun p hp l hl =>
      fin_lst (n := n1.more p (SetTO P w p (ks.foldl addS []))) (LV.step hq (s1.trans (Step.more hp))) (r1.more hp) hl (reps_strs _) q1.2
    have hb : ks.length + 1 < scanBound := by have := q1.1; unfold scanBound; omega
    unfold txtsD at ht
    split at ht
    · rename_i xs e
      have ex := mapM_strs ht
      subst ex
      obtain ⟨l, vs, rfl, h1, h2⟩ := see_lst r1 p1 e
      rw [Reps.strs _ h2] at h1
      exact ⟨l, ks, rfl, .inl (.inl (.inl h1)), hb, fun p hp => ⟨p, _, rfl, upd_same, fun l hl => go p hp l hl⟩⟩
    · rename_i xs e
      have ex := mapM_strs ht
      subst ex
      obtain ⟨l, vs, rfl, h1, _, h2⟩ := see_tup r1 p1 e
      rw [Reps.strs _ h2] at h1
      exact ⟨l, ks, rfl, .inr (.inl (.inl h1)), hb, fun p hp => ⟨p, _, rfl, upd_same, fun l hl => go p hp l hl⟩⟩
    · cases ht
theorem de_sortSet (fz : Bool) (hu : X.A.units + 64 < cLine) (hgl : Gl X "sorted") (hm : X.mg "sorted" = none) (hc : X.calm = true) (hgl2 : Gl X "set") (hm2 : X.mg "set" = none) (ha : DE X W a fa) (hs : starEach [a] X.env = (false, eval a X.env) :: starEach [] X.env := by rfl) (hs2 : starEach [Expr.Call (.Name "set" p2) [a] [] pos2] X.env = (false, eval (Expr.Call (.Name "set" p2) [a] [] pos2) X.env) :: starEach [] X.env := by rfl) :
    DE X W (.Call (.Name "sorted" p) [.Call (.Name "set" p2) [a] [] pos2] [] pos) (dCall (gSortSet fz) (dCons fa dNil)) :=
  PE.imp (pe_callB (cr_sortTO hc hu) hgl hm (by decide +kernel) (pa_cons (pe_callTy (cr_setS hc) hgl2 hm2 (by decide +kernel) (pa_cons ha pa_nil hs) (by decide) (by decide) hs rfl) pa_nil hs2) (by decide) (by decide) hs2 rfl) fun σ H Q h => sset_go σ H Q h
end
end DV
namespace DV
open PySem PySem.Spec PyProof.Rows L2
theorem comp_filtS {src : Option (Nat × List D)} {v : Nat} {tt : DTT} {Γ : Gam} {μ : Mu} {Q : List D → Mu → Prop} (p : Str → Bool) (hG : Gd src μ) (xs : List Str) (hv : v < Γ.length) (hl : xs.length ≤ 1000)
    (ht : ∀ x ∈ xs, ∀ K : Bool → Mu → Prop, K (p x) μ → tt (Γ.set v (some (.str x))) μ K (fun _ _ => False)) (q : Q ((xs.filter p).map .str) μ) : dCompL src (cName v) tt (dVar v) Γ (xs.map .str) [] μ Q := by
  refine comp_pure (fun d => match d with | .str t => p t | _ => false) id hG _ [] (fun x hx K1 K2 k => ?_) (by simp only [List.length_map, List.length_nil, sizeLine_eq]; omega) ?_
  · obtain ⟨t, hx2, rfl⟩ := List.mem_map.mp hx
    simp only [cName]
    refine ht t hx2 _ ?_
    cases hp : p t with
    | true =>
      simp only [hp, cond_true] at k ⊢
      simp only [dVar, List.getElem?_set_self hv]
      exact k
    | false =>
      simp only [hp, cond_false] at k ⊢
      exact k
  · rw [List.nil_append, List.map_id, List.filter_map]
    exact q
end DV
/-! for k in d, for k, v in d.items(): the dict is data, and is locked for ever when it is first walked. -/
namespace DV
open PySem PySem.Spec PyProof.Rows L2
end DV
namespace DV
open PySem PySem.Spec PyProof.Rows L2
end DV
local macro_rules | `(tactic| walk_at "dv") => `(tactic| try simp only [DV.dSeq, DV.dIf, DV.dOrT, DV.dAndT, DV.dNotT, DV.dTest, DV.dChain, DV.dC, DV.dCall, DV.gLen, DV.dCons, DV.dVar, DV.dNil, DV.dBin, DV.dUn, DV.gNeg, DV.gIn, DV.gIx, DV.dRet, DV.dRetN, DV.dNext, DV.dFor, DV.dIter, DV.dName, DV.lk, DV.dAsg, DV.dDrop, DV.gLst, DV.gTup, DV.gLstM, DV.gAdd, DV.gI, DV.gMod, DV.gMul, DV.gFdiv, DV.gPow, DV.gAbs, DV.gInt, DV.gList, DV.gTuple, DV.dOp, DV.dOpK, DV.dIsi, DV.tyD, DV.gIs, DV.gIsNot, DV.D.isN, DV.dJoin, DV.dCellM, DV.dSetI, DV.dSlice, DV.dPart, DV.dNoPart, DV.dRevA, DV.dFin, DV.dAugI, DV.dComp, DV.wipeG, DV.cName, DV.cPair, DV.dYes, DV.dRange1, DV.dRange2, DV.dAnd, DV.dOr, DV.dNot, DV.dIfE, DV.gEq, DV.gNe, DV.sgn_one, DV.atI_zero, DV.dTruth, DV.truD, DV.dBreak, DV.dCont, DV.gSorted, DV.dSortK, DV.dRevT, DV.gInD, DV.gIsB, DV.gStr, DV.dPop0, DV.dDict, DV.dPairs, DV.keysD, DV.keyOfD, DV.dFinD, DV.dFld, DV.dSetF, DV.dMake, DV.dMethod, DV.dProp, DV.dOwnIx, DV.dNever, DV.gMulM, DV.gAddM, DV.gMax2, DV.dPair, DV.gDGet, DV.dSetD, DV.dDict0, DV.dComp2, DV.dSortSC, DV.isIns, DV.insOf,
  List.getElem?_cons_zero, List.getElem?_cons_succ, List.set_cons_zero, List.set_cons_succ, List.map_cons, List.map_nil, List.length_cons, List.length_nil, List.replicate, Nat.sub_self, List.append_nil, List.cons_append, List.nil_append, DV.start0, if_true, if_false, Bool.not_true, Bool.not_false, Bool.false_eq_true, Bool.true_and, Bool.and_true, Bool.or_true, Bool.true_or, Bool.false_or, Bool.or_false, eq_self_iff_true, not_true_eq_false, not_false_eq_true, ite_true, ite_false, cond_true, cond_false])
namespace DV
open PySem PySem.Spec PyProof.Rows L2
/-! Wishes: an integer for each of some outcomes. -/
/-- names of outcomes -/
structure NOk (ns : List Str) : Prop where
  nd : ns.Nodup
  l1 : 1 ≤ ns.length
  l6 : ns.length ≤ 6
  ok : ∀ x ∈ ns, validN x = true
/-! check_different -/
/-! Wishes.__init__ -/
theorem fz_pu {m : Nat} {μ : Mu} : ∀ {ds : List D}, D.puL ds = true → FzL m μ ds ds
  | [], _ => .nil
  | d :: ds, h => by simp only [D.puL, Bool.and_eq_true] at h; exact .cons (.pu h.1) (fz_pu h.2)
/-! outcomes, prefers -/
end DV
namespace DV
open PySem PySem.Spec PyProof.Rows L2
/-! Cells, improvements, stable cells. -/
def cellsG (g : List (List Str)) : List (Nat × Nat) := (List.range g.length).flatMap fun r => (List.range (wid g)).map fun c => (r, c)
theorem cells_len {g : List (List Str)} : (cellsG g).length = g.length * wid g := by
  unfold cellsG
  rw [List.length_flatMap]
  simp only [List.length_map, List.length_range]
  rw [List.map_const', List.length_range, List.sum_replicate_nat]
theorem TOk.cl {g : List (List Str)} (h : TOk g) : (cellsG g).length ≤ 64 := by rw [cells_len]; exact Nat.mul_le_mul h.h2 h.w2
theorem pu_strs (ws : List Str) : D.puL (ws.map .str) = true := by rw [puL_iff]; intro x hx; obtain ⟨z, _, rfl⟩ := List.mem_map.mp hx; rfl
/-! table[cell], of any value -/
/-! improvements -/
end DV
namespace DV
open PySem PySem.Spec PyProof.Rows L2
/-! The laws' own wishes and looks. -/
def SeeS (ρ : Mu) (d : D) (ns : List Str) : Prop := ∀ c loc, seqOf (O c (ρ ++ loc)) d = some (ns.map .str)
theorem SeeS.tup {ρ : Mu} {ns : List Str} : SeeS ρ (tupS ns) ns := fun _ _ => rfl
theorem SeeS.lst {ρ : Mu} {ns : List Str} : SeeS ρ (.lst (ns.map .str)) ns := fun _ _ => rfl
theorem NOk.perm {ns ks : List Str} (h : NOk ns) (p : ks.Perm ns) : NOk ks := ⟨p.nodup_iff.mpr h.nd, by rw [p.length_eq]; exact h.l1, by rw [p.length_eq]; exact h.l6, fun x hx => h.ok x (p.mem_iff.mp hx)⟩
/-- a loop that changes no cell, by turns -/
theorem loop_pass' {src : Option (Nat × List D)} {g : DTG} {body : DTS} {De : DEnds} {μ : Mu} (P : Nat → Gam → Prop) (hG : Gd src μ) {ds : List D} {Γ : Gam} (h0 : P 0 Γ)
    (hs : ∀ (i : Nat) d Γ, ds[i]? = some d → P i Γ → ∀ Kn : Gam → Mu → Prop, (∀ Γ', P (i + 1) Γ' → Kn Γ' μ) → g d Γ μ (fun Γ1 μ1 => body { De with nx := Kn, ct := Kn, bk := De.nx } Γ1 μ1) (fun e μ1 => De.ex e Γ μ1)) (he : ∀ Γ, P ds.length Γ → De.nx Γ μ) : dLoop src g body ds De Γ μ := by
  refine loop_inv (fun i Γ μ' => P i Γ ∧ μ' = μ) ⟨h0, rfl⟩ ?_ ?_
  · rintro i d Γ μ' hd ⟨hP, rfl⟩
    exact ⟨hG, fun Kn kn => hs i d Γ hd hP Kn fun Γ' h => kn Γ' _ ⟨h, rfl⟩⟩
  · rintro Γ μ' ⟨hP, rfl⟩
    exact ⟨hG, he Γ hP⟩
/-! cells -/
/-! better cells -/
end DV
local macro_rules | `(tactic| walk_at "dv") => `(tactic| try simp only [DV.dSeq, DV.dIf, DV.dOrT, DV.dAndT, DV.dNotT, DV.dTest, DV.dChain, DV.dC, DV.dCall, DV.gLen, DV.dCons, DV.dVar, DV.dNil, DV.dBin, DV.dUn, DV.gNeg, DV.gIn, DV.gIx, DV.dRet, DV.dRetN, DV.dNext, DV.dFor, DV.dIter, DV.dName, DV.lk, DV.dAsg, DV.dDrop, DV.gLst, DV.gTup, DV.gLstM, DV.gAdd, DV.gI, DV.gMod, DV.gMul, DV.gFdiv, DV.gPow, DV.gAbs, DV.gInt, DV.gList, DV.gTuple, DV.dOp, DV.dOpK, DV.dIsi, DV.tyD, DV.gIs, DV.gIsNot, DV.D.isN, DV.dJoin, DV.dCellM, DV.dSetI, DV.dSlice, DV.dPart, DV.dNoPart, DV.dRevA, DV.dFin, DV.dAugI, DV.dComp, DV.wipeG, DV.cName, DV.cPair, DV.dYes, DV.dRange1, DV.dRange2, DV.dAnd, DV.dOr, DV.dNot, DV.dIfE, DV.gEq, DV.gNe, DV.sgn_one, DV.atI_zero, DV.dTruth, DV.truD, DV.dBreak, DV.dCont, DV.gSorted, DV.dSortK, DV.dRevT, DV.gInD, DV.gIsB, DV.gStr, DV.dPop0, DV.dDict, DV.dPairs, DV.keysD, DV.keyOfD, DV.dFinD, DV.dFld, DV.dSetF, DV.dMake, DV.dMethod, DV.dProp, DV.dOwnIx, DV.dNever, DV.dRaise, DV.dRaise0, DV.gMulM, DV.gAddM, DV.gMax2, DV.dPair, DV.gDGet, DV.dSetD, DV.dDict0, DV.dComp2, DV.dSortSC, DV.isIns, DV.insOf,
  List.getElem?_cons_zero, List.getElem?_cons_succ, List.set_cons_zero, List.set_cons_succ, List.map_cons, List.map_nil, List.length_cons, List.length_nil, List.replicate, Nat.sub_self, List.append_nil, List.cons_append, List.nil_append, DV.start0, if_true, if_false, Bool.not_true, Bool.not_false, Bool.false_eq_true, Bool.true_and, Bool.and_true, Bool.or_true, Bool.true_or, Bool.false_or, Bool.or_false, eq_self_iff_true, not_true_eq_false, not_false_eq_true, ite_true, ite_false, cond_true, cond_false])
namespace DV
open PySem PySem.Spec PyProof.Rows L2
/-! Plain facts: smooth and firm by rows; what keeps a table's kind. -/
/-- firm, by rows -/
def Fm (g : List (List Str)) : Prop := ∀ S : Str → Prop, (∃ r ∈ g, ∀ x ∈ r, S x) ∨ ∃ j, j < wid g ∧ ∀ r ∈ g, ¬ S (r.getD j Str.empty)
theorem getD_mem {g : List (List Str)} (h : TOk g) {r : List Str} (hr : r ∈ g) {j : Nat} (hj : j < wid g) : r.getD j Str.empty ∈ r := by
  have : j < r.length := by rw [h.eq r hr]; exact hj
  rw [List.getD_eq_getElem?_getD, List.getElem?_eq_getElem this]
  exact List.getElem_mem _
theorem flip_flip_row {g : List (List Str)} (h : TOk g) {c : List Str} (hc : c ∈ flip g) {i : Nat} (hi : i < g.length) : ∃ k, k < wid g ∧ c = g.map (fun r => r.getD k Str.empty) ∧ c.getD i Str.empty = cell g i k := by
  unfold flip at hc
  obtain ⟨k, hk, rfl⟩ := List.mem_map.mp hc
  refine ⟨k, List.mem_range.mp hk, rfl, ?_⟩
  rw [List.getD_eq_getElem?_getD, List.getElem?_map, List.getElem?_eq_getElem hi]
  unfold cell
  rw [show g.getD i [] = g[i] from by rw [List.getD_eq_getElem?_getD, List.getElem?_eq_getElem hi]; rfl]; rfl
theorem Fm.flip {g : List (List Str)} (h : TOk g) (hf : Fm g) : Fm (flip g) := by
  intro S
  rcases hf (fun x => ¬ S x) with ⟨r, hr, hx⟩ | ⟨j, hj, hx⟩
  · obtain ⟨i, hi, rfl⟩ := List.getElem_of_mem hr
    refine .inr ⟨i, by rw [flip_wid h.w1]; exact hi, fun c hc => ?_⟩
    obtain ⟨k, hk, _, e⟩ := flip_flip_row h hc hi
    rw [e]
    unfold cell
    rw [show g.getD i [] = g[i] from by rw [List.getD_eq_getElem?_getD, List.getElem?_eq_getElem hi]; rfl]
    exact hx _ (getD_mem h hr hk)
  · refine .inl ⟨_, List.mem_map.mpr ⟨j, List.mem_range.mpr hj, rfl⟩, fun x hx2 => ?_⟩
    obtain ⟨r, hr, rfl⟩ := List.mem_map.mp hx2
    exact Classical.not_not.mp (hx r hr)
end DV
local macro_rules | `(tactic| walk_at "dv") => `(tactic| try simp only [DV.dSeq, DV.dIf, DV.dOrT, DV.dAndT, DV.dNotT, DV.dTest, DV.dChain, DV.dC, DV.dCall, DV.gLen, DV.dCons, DV.dVar, DV.dNil, DV.dBin, DV.dUn, DV.gNeg, DV.gIn, DV.gIx, DV.dRet, DV.dRetN, DV.dNext, DV.dFor, DV.dIter, DV.dName, DV.lk, DV.dAsg, DV.dDrop, DV.gLst, DV.gTup, DV.gLstM, DV.gAdd, DV.gI, DV.gMod, DV.gMul, DV.gFdiv, DV.gPow, DV.gAbs, DV.gInt, DV.gList, DV.gTuple, DV.dOp, DV.dOpK, DV.dIsi, DV.tyD, DV.gIs, DV.gIsNot, DV.D.isN, DV.dJoin, DV.dCellM, DV.dSetI, DV.dSlice, DV.dPart, DV.dNoPart, DV.dRevA, DV.dFin, DV.dAugI, DV.dComp, DV.wipeG, DV.cName, DV.cPair, DV.dYes, DV.dRange1, DV.dRange2, DV.dAnd, DV.dOr, DV.dNot, DV.dIfE, DV.gEq, DV.gNe, DV.sgn_one, DV.atI_zero, DV.dTruth, DV.truD, DV.dBreak, DV.dCont, DV.gSorted, DV.dSortK, DV.dRevT, DV.gInD, DV.gIsB, DV.gStr, DV.dPop0, DV.dDict, DV.dPairs, DV.keysD, DV.keyOfD, DV.dFinD, DV.dFld, DV.dSetF, DV.dMake, DV.dMethod, DV.dProp, DV.dOwnIx, DV.dNever, DV.gMulM, DV.gAddM, DV.gMax2, DV.dPair, DV.gDGet, DV.dSetD, DV.dDict0, DV.dComp2, DV.dSortSC, DV.isIns, DV.insOf,
  List.getElem?_cons_zero, List.getElem?_cons_succ, List.set_cons_zero, List.set_cons_succ, List.map_cons, List.map_nil, List.length_cons, List.length_nil, List.replicate, Nat.sub_self, List.append_nil, List.cons_append, List.nil_append, DV.start0, if_true, if_false, Bool.not_true, Bool.not_false, Bool.false_eq_true, Bool.true_and, Bool.and_true, Bool.or_true, Bool.true_or, Bool.false_or, Bool.or_false, eq_self_iff_true, not_true_eq_false, not_false_eq_true, ite_true, ite_false, cond_true, cond_false])
namespace DV
open PySem PySem.Spec PyProof.Rows L2
/-! the makers of firm grids, once more: firmness is kept -/
def wide (k : Nat) (s : List Str) : List Str := s.flatMap (List.replicate k)
def tall (k : Nat) (s : List Str) : List Str := (List.replicate k s).flatten
def stack (g1 g2 : List (List Str)) : List (List Str) := g1.map (wide (wid g2)) ++ g2.map (tall (wid g1))
theorem GB.fmflip {W : List Str} {n : Nat} {g : List (List Str)} (h : GB W n g) (hf : Fm g) : Fm (DV.flip g) := by
  intro S
  rcases hf (fun x => ¬ S x) with ⟨r, hr, hx⟩ | ⟨j, hj, hx⟩
  · obtain ⟨i, hi, rfl⟩ := List.getElem_of_mem hr
    refine .inr ⟨i, by rw [flip_wid h.w1]; exact hi, fun c hc => ?_⟩
    unfold DV.flip at hc
    obtain ⟨k, hk, rfl⟩ := List.mem_map.mp hc
    have hl := h.eq _ hr
    have hk := List.mem_range.mp hk
    rw [List.getD_eq_getElem?_getD, List.getElem?_map, List.getElem?_eq_getElem hi]
    show ¬ S (g[i].getD k Str.empty)
    rw [List.getD_eq_getElem?_getD, List.getElem?_eq_getElem (by omega)]
    exact hx _ (List.getElem_mem _)
  · refine .inl ⟨_, List.mem_map.mpr ⟨j, List.mem_range.mpr hj, rfl⟩, fun x hx2 => ?_⟩
    obtain ⟨r, hr, rfl⟩ := List.mem_map.mp hx2
    exact Classical.not_not.mp (hx r hr)
theorem fm_leaf (x : Str) : Fm [[x]] := fun S => by
  by_cases h : S x
  · exact .inl ⟨[x], by simp, by simpa using h⟩
  · exact .inr ⟨0, by simp [wid], by simpa using h⟩
def GenQF (c : Nat) (ρ : Mu) (W : List Str) (B : Nat) (Q : D → Mu → Prop) : Prop := ∀ c' d' ext g, c ≤ c' + B → GB W 8 g → Fm g → GCell (fun l => ρ.length + 1 ≤ l) (O c' (ρ ++ ext)) d' g → Q d' (O c' (ρ ++ ext))
theorem GenQ.f {c : Nat} {ρ : Mu} {W : List Str} {B : Nat} {Q : D → Mu → Prop} (h : GenQ c ρ W B Q) : GenQF c ρ W B Q := fun c' d' ext g h1 h2 _ h3 => h c' d' ext g h1 h2 h3
/-- the parts, in their cell -/
def PartsAtF (W : List Str) (lp : Nat) (p : Nat → Prop) (μ : Mu) (parts : List D) : Prop := μ[lp]? = some (.lst parts) ∧ ∀ a ∈ parts, ∃ g, (GB W 8 g ∧ Fm g) ∧ GCell p μ a g
theorem PartsAtF.keep {W : List Str} {lp : Nat} {p : Nat → Prop} {μ μ' : Mu} {parts parts' : List D} (h : PartsAtF W lp p μ parts) (h1 : μ'[lp]? = some (.lst parts')) (h2 : ∀ a ∈ parts', a ∈ parts) (h3 : ∀ a g, GCell p μ a g → GCell p μ' a g) : PartsAtF W lp p μ' parts' :=
  ⟨h1, fun a ha => let ⟨g, b, c⟩ := h.2 a (h2 a ha); ⟨g, b, h3 a g c⟩⟩
end DV
local macro_rules | `(tactic| walk_at "dv") => `(tactic| try simp only [DV.dSeq, DV.dIf, DV.dOrT, DV.dAndT, DV.dNotT, DV.dTest, DV.dChain, DV.dC, DV.dCall, DV.gLen, DV.dCons, DV.dVar, DV.dNil, DV.dBin, DV.dUn, DV.gNeg, DV.gIn, DV.gIx, DV.dRet, DV.dRetN, DV.dNext, DV.dFor, DV.dIter, DV.dName, DV.lk, DV.dAsg, DV.dDrop, DV.gLst, DV.gTup, DV.gLstM, DV.gAdd, DV.gI, DV.gMod, DV.gMul, DV.gFdiv, DV.gPow, DV.gAbs, DV.gInt, DV.gList, DV.gTuple, DV.dOp, DV.dOpK, DV.dIsi, DV.tyD, DV.gIs, DV.gIsNot, DV.D.isN, DV.dJoin, DV.dCellM, DV.dSetI, DV.dSlice, DV.dPart, DV.dNoPart, DV.dRevA, DV.dFin, DV.dAugI, DV.dComp, DV.wipeG, DV.cName, DV.cPair, DV.dYes, DV.dRange1, DV.dRange2, DV.dAnd, DV.dOr, DV.dNot, DV.dIfE, DV.gEq, DV.gNe, DV.sgn_one, DV.atI_zero, DV.dTruth, DV.truD, DV.dBreak, DV.dCont, DV.gSorted, DV.dSortK, DV.dRevT, DV.gInD, DV.gIsB, DV.gStr, DV.dPop0, DV.dDict, DV.dPairs, DV.keysD, DV.keyOfD, DV.dFinD, DV.dFld, DV.dSetF, DV.dMake, DV.dMethod, DV.dProp, DV.dOwnIx, DV.dNever, DV.dRaise, DV.dRaise0, DV.gMulM, DV.gAddM, DV.gMax2, DV.dPair, DV.gDGet, DV.dSetD, DV.dDict0, DV.dComp2, DV.dSortSC, DV.isIns, DV.insOf,
  List.getElem?_cons_zero, List.getElem?_cons_succ, List.set_cons_zero, List.set_cons_succ, List.map_cons, List.map_nil, List.length_cons, List.length_nil, List.replicate, Nat.sub_self, List.append_nil, List.cons_append, List.nil_append, DV.start0, if_true, if_false, Bool.not_true, Bool.not_false, Bool.false_eq_true, Bool.true_and, Bool.and_true, Bool.or_true, Bool.true_or, Bool.false_or, Bool.or_false, eq_self_iff_true, not_true_eq_false, not_false_eq_true, ite_true, ite_false, cond_true, cond_false])
namespace DV
open PySem PySem.Spec PyProof.Rows L2
/-! Trees of lines: the plain tables of the draw family. -/
def ways (sz : List Nat) : List (List Nat) := sz.foldl (fun f n => f.flatMap fun w => (List.range n).map fun k => w ++ [k]) [[]]
theorem ways_snoc (sz : List Nat) (n : Nat) : ways (sz ++ [n]) = (ways sz).flatMap fun w => (List.range n).map fun k => w ++ [k] := by
  unfold ways; rw [List.foldl_append]; rfl
def prodN (sz : List Nat) : Nat := sz.foldl (· * ·) 1
theorem prod_snoc (sz : List Nat) (n : Nat) : prodN (sz ++ [n]) = prodN sz * n := by unfold prodN; rw [List.foldl_append]; rfl
theorem flatN_len {α β : Type} {n : Nat} {f : α → List β} (h : ∀ x, (f x).length = n) : ∀ xs : List α, (xs.flatMap f).length = xs.length * n
  | [] => by simp
  | x :: xs => by rw [List.flatMap_cons, List.length_append, h, flatN_len h xs, List.length_cons, Nat.add_mul]; omega
theorem snoc_ind {α : Type} {P : List α → Prop} (h0 : P []) (hs : ∀ xs x, P xs → P (xs ++ [x])) (xs : List α) : P xs := by
  have : P xs.reverse.reverse := by
    generalize xs.reverse = ys
    induction ys with
    | nil => exact h0
    | cons y ys ih => rw [List.reverse_cons]; exact hs _ _ ih
  rwa [List.reverse_reverse] at this
theorem ways_len (sz : List Nat) : (ways sz).length = prodN sz := by
  refine snoc_ind (P := fun sz => (ways sz).length = prodN sz) rfl (fun xs n ih => ?_) sz
  rw [ways_snoc, prod_snoc, flatN_len (n := n) (fun _ => by simp), ih]
theorem ways_item (sz : List Nat) : ∀ w ∈ ways sz, w.length = sz.length ∧ ∀ i, i < sz.length → w.getD i 0 < sz.getD i 0 := by
  refine snoc_ind (P := fun sz => ∀ w ∈ ways sz, w.length = sz.length ∧ ∀ i, i < sz.length → w.getD i 0 < sz.getD i 0) ?_ (fun xs n ih => ?_) sz
  · intro w hw
    have : w = [] := by simpa [ways] using hw
    subst this
    exact ⟨rfl, fun i h => absurd h (by simp)⟩
  · intro w hw
    rw [ways_snoc] at hw
    obtain ⟨v, hv, hw⟩ := List.mem_flatMap.mp hw
    obtain ⟨k, hk, rfl⟩ := List.mem_map.mp hw
    obtain ⟨h1, h2⟩ := ih v hv
    refine ⟨by simp [h1], fun i hi => ?_⟩
    rw [List.length_append, List.length_singleton] at hi
    rw [List.getD_eq_getElem?_getD, List.getD_eq_getElem?_getD]
    by_cases e : i < xs.length
    · rw [List.getElem?_append_left (by omega), List.getElem?_append_left e, ← List.getD_eq_getElem?_getD, ← List.getD_eq_getElem?_getD]
      exact h2 i e
    · have e : i = xs.length := by omega
      rw [e, List.getElem?_append_right (by omega), List.getElem?_append_right (by omega), h1]
      simpa using hk
theorem ways_mem (sz : List Nat) : ∀ w : List Nat, w.length = sz.length → (∀ i, i < sz.length → w.getD i 0 < sz.getD i 0) → w ∈ ways sz := by
  refine snoc_ind (P := fun sz => ∀ w : List Nat, w.length = sz.length → (∀ i, i < sz.length → w.getD i 0 < sz.getD i 0) → w ∈ ways sz) ?_ (fun xs n ih => ?_) sz
  · intro w h _
    rw [List.eq_nil_of_length_eq_zero h]
    simp [ways]
  · intro w h1 h2
    rw [List.length_append, List.length_singleton] at h1 h2
    have hw : w = w.dropLast ++ [w.getD xs.length 0] := by
      have hne : w ≠ [] := by intro z; subst z; simp at h1
      have := List.dropLast_concat_getLast hne
      rw [List.getLast_eq_getElem] at this
      rw [List.getD_eq_getElem?_getD, List.getElem?_eq_getElem (by omega)]
      have e : w.length - 1 = xs.length := by omega
      simp only [e] at this
      exact this.symm
    rw [hw, ways_snoc]
    refine List.mem_flatMap.mpr ⟨_, ih w.dropLast (by simp; omega) (fun i hi => ?_), List.mem_map.mpr ⟨_, List.mem_range.mpr ?_, rfl⟩⟩
    · have := h2 i (by omega)
      rw [List.getD_eq_getElem?_getD, List.getD_eq_getElem?_getD] at this ⊢
      rw [List.getElem?_append_left hi] at this
      rw [List.getElem?_dropLast, if_pos (by omega)]
      exact this
    · have := h2 xs.length (by omega)
      rw [List.getD_eq_getElem?_getD (l := xs ++ [n]), List.getElem?_append_right (by omega)] at this
      simpa using this
theorem prod_pos : ∀ {sz : List Nat}, (∀ n ∈ sz, 1 ≤ n) → 1 ≤ prodN sz := fun {sz} => by
  refine snoc_ind (P := fun sz => (∀ n ∈ sz, 1 ≤ n) → 1 ≤ prodN sz) (fun _ => by decide) (fun xs n ih h => ?_) sz
  rw [prod_snoc]
  exact Nat.mul_pos (ih fun m hm => h m (List.mem_append_left _ hm)) (h n (by simp))
/-- parts side by side: the lines of each, the columns of all -/
def joinG (gs : List (List (List Str))) : List (List Str) := (List.range gs.length).flatMap fun k => (gs.getD k []).map fun r => (ways (gs.map wid)).map fun w => r.getD (w.getD k 0) Str.empty
theorem joinG_mem {gs : List (List (List Str))} {s : List Str} (h : s ∈ joinG gs) : ∃ (k : Nat) (g : List (List Str)) (r : List Str), gs[k]? = some g ∧ r ∈ g ∧ s = (ways (gs.map wid)).map fun w => r.getD (w.getD k 0) Str.empty := by
  obtain ⟨k, hk, h⟩ := List.mem_flatMap.mp h
  obtain ⟨r, hr, rfl⟩ := List.mem_map.mp h
  have hk := List.mem_range.mp hk
  rw [List.getD_eq_getElem?_getD, List.getElem?_eq_getElem hk] at hr
  exact ⟨k, gs[k], r, List.getElem?_eq_getElem hk, hr, rfl⟩
theorem mem_joinG {gs : List (List (List Str))} {k : Nat} {g : List (List Str)} {r : List Str} (hk : gs[k]? = some g) (hr : r ∈ g) : ((ways (gs.map wid)).map fun w => r.getD (w.getD k 0) Str.empty) ∈ joinG gs := by
  have hl := (List.getElem?_eq_some_iff.mp hk).1
  refine List.mem_flatMap.mpr ⟨k, List.mem_range.mpr hl, List.mem_map.mpr ⟨r, ?_, rfl⟩⟩
  rw [List.getD_eq_getElem?_getD, hk]; exact hr
theorem joinG_wid {gs : List (List (List Str))} (h : 1 ≤ (joinG gs).length) : wid (joinG gs) = prodN (gs.map wid) := by
  obtain ⟨s, t, e⟩ : ∃ s t, joinG gs = s :: t := by
    cases hh : joinG gs with
    | nil => rw [hh] at h; simp at h
    | cons s t => exact ⟨s, t, rfl⟩
  obtain ⟨k, g, r, _, _, hs⟩ := joinG_mem (by rw [e]; exact List.mem_cons_self)
  rw [e]
  show s.length = _
  rw [hs, List.length_map, ways_len]
theorem joinG_len (gs : List (List (List Str))) : (joinG gs).length = (gs.map List.length).sum := by
  unfold joinG
  rw [List.length_flatMap]
  congr 1
  refine List.ext_getElem (by simp) fun i h1 h2 => ?_
  simp only [List.length_map, List.length_range] at h1
  simp [List.getElem?_eq_getElem h1]
/-- the bounds of a tree's table: of n outcomes at most 2 ^ n lines -/
structure GT (ns : List Str) (g : List (List Str)) : Prop where
  b : GB ns (2 ^ ns.length) g
  f : Fm g
theorem GB.sub {W V : List Str} {n : Nat} {g : List (List Str)} (h : GB W n g) (hs : ∀ x ∈ W, x ∈ V) : GB V n g := ⟨h.h1, h.h2, h.w1, h.w2, h.eq, fun r hr x hx => hs x (h.mem r hr x hx)⟩
theorem sum_le_pow : ∀ (ms hs : List Nat), ms.length = hs.length → (∀ i, i < ms.length → 1 ≤ ms.getD i 0 ∧ hs.getD i 0 ≤ 2 ^ ms.getD i 0) → hs.sum ≤ 2 ^ ms.sum ∧ prodN hs ≤ 2 ^ ms.sum
  | [], [], _, _ => by decide
  | m :: ms, h :: hs, e, hh => by
    obtain ⟨a1, a2⟩ := hh 0 (by simp)
    have A1 : 1 ≤ m := a1
    have A2 : h ≤ 2 ^ m := a2
    clear a1 a2
    obtain ⟨b1, b2⟩ := sum_le_pow ms hs (by simpa using e) fun i hi => by simpa using hh (i + 1) (by simpa using hi)
    have e2 : 2 ^ (m :: ms).sum = 2 ^ m * 2 ^ ms.sum := by rw [List.sum_cons, Nat.pow_add]
    have p : prodN (h :: hs) = h * prodN hs := by
      have aux : ∀ (l : List Nat) (a : Nat), l.foldl (· * ·) a = a * l.foldl (· * ·) 1 := fun l => by
        induction l with
        | nil => intro a; simp
        | cons c l ih =>
          intro a
          rw [List.foldl_cons, List.foldl_cons, ih (a * c), ih (1 * c), Nat.one_mul, Nat.mul_assoc]
      unfold prodN
      rw [List.foldl_cons, aux, Nat.one_mul]
    have c1 : 2 ^ 1 ≤ 2 ^ m := Nat.pow_le_pow_right (by decide) A1
    rw [e2, p]
    refine ⟨?_, Nat.mul_le_mul A2 b2⟩
    rw [List.sum_cons]
    cases ms with
    | nil =>
      cases hs with
      | nil => simp; exact A2
      | cons _ _ => simp at e
    | cons m2 ms =>
      have d1 : 1 ≤ m2 := (hh 1 (by simp)).1
      have c2 : 2 ^ 1 ≤ 2 ^ (m2 :: ms).sum := Nat.pow_le_pow_right (by decide) (by rw [List.sum_cons]; omega)
      generalize 2 ^ (m2 :: ms).sum = q at b1 c2 ⊢
      generalize 2 ^ m = p at A2 c1 ⊢
      have : p + q ≤ p * q := by
        obtain ⟨p', rfl⟩ : ∃ p', p = p' + 2 := ⟨p - 2, by omega⟩
        obtain ⟨q', rfl⟩ : ∃ q', q = q' + 2 := ⟨q - 2, by omega⟩
        rw [Nat.add_mul, Nat.mul_add]
        omega
      exact Nat.le_trans (Nat.add_le_add A2 b1) this
theorem joinG_ok {nss : List (List Str)} {gs : List (List (List Str))} (hl : nss.length = gs.length) (hn : 1 ≤ nss.length) (hg : ∀ (i : Nat) (ns : List Str) (g : List (List Str)), nss[i]? = some ns → gs[i]? = some g → 1 ≤ ns.length ∧ GT ns g) : GT nss.flatten (joinG gs) := by
  have get : ∀ i, i < gs.length → ∃ ns, nss[i]? = some ns ∧ 1 ≤ ns.length ∧ GT ns (gs.getD i []) := fun i hi => by
    refine ⟨nss[i]'(by omega), List.getElem?_eq_getElem (by omega), ?_⟩
    rw [List.getD_eq_getElem?_getD, List.getElem?_eq_getElem hi]
    exact hg i _ _ (List.getElem?_eq_getElem (by omega)) (List.getElem?_eq_getElem hi)
  have hgs : 1 ≤ gs.length := by omega
  have hlen : 1 ≤ (joinG gs).length := by
    rw [joinG_len]
    obtain ⟨ns, _, _, h⟩ := get 0 hgs
    cases gs with
    | nil => simp at hgs
    | cons g gs =>
      have := h.b.h1
      rw [List.map_cons, List.sum_cons]
      have e : (g :: gs).getD 0 [] = g := rfl
      rw [e] at this
      omega
  have fl : nss.flatten.length = (nss.map List.length).sum := List.length_flatten ..
  have gm : ∀ i, i < gs.length → ((gs.map wid).getD i 0 = wid (gs.getD i []) ∧ (gs.map List.length).getD i 0 = (gs.getD i []).length) := fun i hi => by
    simp [List.getD_eq_getElem?_getD, List.getElem?_eq_getElem hi]
  have nm : ∀ i ns, nss[i]? = some ns → (nss.map List.length).getD i 0 = ns.length := fun i ns h => by
    rw [List.getD_eq_getElem?_getD, List.getElem?_map, h]; rfl
  have q1 := sum_le_pow (nss.map List.length) (gs.map List.length) (by simp [hl]) fun i hi => by
    rw [List.length_map] at hi
    obtain ⟨ns, e, h1, h2⟩ := get i (by omega)
    rw [nm i ns e, (gm i (by omega)).2]
    exact ⟨h1, h2.b.h2⟩
  have q2 := sum_le_pow (nss.map List.length) (gs.map wid) (by simp [hl]) fun i hi => by
    rw [List.length_map] at hi
    obtain ⟨ns, e, h1, h2⟩ := get i (by omega)
    rw [nm i ns e, (gm i (by omega)).1]
    exact ⟨h1, h2.b.w2⟩
  have rowlen : ∀ s ∈ joinG gs, s.length = wid (joinG gs) := fun s hs => by
    obtain ⟨k, g, r, _, _, rfl⟩ := joinG_mem hs
    rw [joinG_wid hlen, List.length_map, ways_len]
  refine ⟨⟨hlen, by rw [joinG_len, fl]; exact q1.1, ?_, by rw [joinG_wid hlen, fl]; exact q2.2, rowlen, ?_⟩, ?_⟩
  · rw [joinG_wid hlen]
    refine prod_pos fun n hn => ?_
    obtain ⟨g, hg', rfl⟩ := List.mem_map.mp hn
    obtain ⟨i, hi, rfl⟩ := List.getElem_of_mem hg'
    obtain ⟨ns, e, h1, h2⟩ := get i hi
    have := h2.b.w1
    rw [List.getD_eq_getElem?_getD, List.getElem?_eq_getElem hi] at this
    exact this
  · intro s hs x hx
    obtain ⟨k, g, r, hk, hr, rfl⟩ := joinG_mem hs
    obtain ⟨w, hw, rfl⟩ := List.mem_map.mp hx
    have hkl := (List.getElem?_eq_some_iff.mp hk).1
    obtain ⟨ns, e, h1, h2⟩ := get k hkl
    have ek : gs.getD k [] = g := by rw [List.getD_eq_getElem?_getD, hk]; rfl
    rw [ek] at h2
    obtain ⟨w1, w2⟩ := ways_item _ w hw
    have := w2 k (by simpa using hkl)
    rw [(gm k hkl).1, ek] at this
    rw [List.getD_eq_getElem?_getD, List.getElem?_eq_getElem (by rw [h2.b.eq r hr]; exact this)]
    exact List.mem_flatten.mpr ⟨ns, List.mem_of_getElem? e, h2.b.mem r hr _ (List.getElem_mem _)⟩
  · intro S
    by_cases hx : ∃ (k : Nat) (g : List (List Str)), gs[k]? = some g ∧ ∃ r ∈ g, ∀ x ∈ r, S x
    · obtain ⟨k, g, hk, r, hr, hS⟩ := hx
      have hkl := (List.getElem?_eq_some_iff.mp hk).1
      obtain ⟨ns, e, h1, h2⟩ := get k hkl
      have ek : gs.getD k [] = g := by rw [List.getD_eq_getElem?_getD, hk]; rfl
      rw [ek] at h2
      refine .inl ⟨_, mem_joinG hk hr, fun x hx => ?_⟩
      obtain ⟨w, hw, rfl⟩ := List.mem_map.mp hx
      obtain ⟨w1, w2⟩ := ways_item _ w hw
      have := w2 k (by simpa using hkl)
      rw [(gm k hkl).1, ek] at this
      rw [List.getD_eq_getElem?_getD, List.getElem?_eq_getElem (by rw [h2.b.eq r hr]; exact this)]
      exact hS _ (List.getElem_mem _)
    · have ch : ∀ k, ∃ j, k < gs.length → j < wid (gs.getD k []) ∧ ∀ r ∈ gs.getD k [], ¬ S (r.getD j Str.empty) := fun k => by
        by_cases hk : k < gs.length
        · obtain ⟨ns, e, h1, h2⟩ := get k hk
          rcases h2.f S with ⟨r, hr, h⟩ | ⟨j, hj, h⟩
          · refine absurd ⟨k, _, List.getElem?_eq_getElem hk, r, ?_, h⟩ hx
            rw [List.getD_eq_getElem?_getD, List.getElem?_eq_getElem hk] at hr
            exact hr
          · exact ⟨j, fun _ => ⟨hj, h⟩⟩
        · exact ⟨0, fun z => absurd z hk⟩
      obtain ⟨f, hf⟩ := Classical.axiomOfChoice ch
      have hw : (List.range gs.length).map f ∈ ways (gs.map wid) := ways_mem _ _ (by simp) fun i hi => by
        rw [List.length_map] at hi
        rw [(gm i hi).1]
        simp [List.getElem?_range hi]
        have := (hf i hi).1
        rw [List.getD_eq_getElem?_getD] at this
        exact this
      obtain ⟨j, hj, ej⟩ := List.getElem_of_mem hw
      refine .inr ⟨j, by rw [joinG_wid hlen, ← ways_len]; exact hj, fun s hs => ?_⟩
      obtain ⟨k, g, r, hk, hr, rfl⟩ := joinG_mem hs
      have hkl := (List.getElem?_eq_some_iff.mp hk).1
      have ek : gs.getD k [] = g := by rw [List.getD_eq_getElem?_getD, hk]; rfl
      have h5 := (hf k hkl).2
      rw [ek] at h5
      have e1 : ((ways (gs.map wid)).map fun w => r.getD (w.getD k 0) Str.empty).getD j Str.empty = r.getD (f k) Str.empty := by
        rw [List.getD_eq_getElem?_getD, List.getElem?_map, List.getElem?_eq_getElem hj, ej]
        simp [List.getElem?_range hkl]
      rw [e1]
      exact h5 r hr
/-! trees as data, and their tables -/
def sideD (r : Bool) : D := .str (if r then "rows" else "columns")
def TreeOf : Nat → List Str → D → Prop
  | 0, _, _ => False
  | n + 1, ns, d => (∃ s, ns = [s] ∧ d = .str s) ∨ ∃ (r : Bool) (nss : List (List Str)) (ps : List D), d = .tup [sideD r, .lst ps] ∧ nss.length = ps.length ∧ 2 ≤ nss.length ∧ nss.length ≤ 1000 ∧ nss.flatten.Perm ns ∧ ∀ (i : Nat) (ms : List Str) (p : D), nss[i]? = some ms → ps[i]? = some p → TreeOf n ms p
def gridT : Nat → D → List (List Str)
  | 0, _ => [[]]
  | n + 1, .str s => [[s]]
  | n + 1, .tup [.str sd, .lst ps] => if sd = "columns" then flip (joinG (ps.map fun p => flip (gridT n p))) else joinG (ps.map fun p => gridT n p)
  | _, _ => [[]]
theorem GT.flip {ns : List Str} {g : List (List Str)} (h : GT ns g) : GT ns (DV.flip g) := ⟨h.b.flip, h.b.fmflip h.f⟩
theorem GT.perm {ns ms : List Str} {g : List (List Str)} (h : GT ns g) (p : ns.Perm ms) : GT ms g := ⟨by
  have := h.b.sub (V := ms) fun x hx => p.mem_iff.mp hx
  rw [p.length_eq] at this
  exact this, h.f⟩
theorem tree_ne : ∀ {n : Nat} {ns : List Str} {d : D}, TreeOf n ns d → 1 ≤ ns.length
  | 0, _, _, h => h.elim
  | n + 1, ns, d, h => by
    rcases h with ⟨s, rfl, _⟩ | ⟨r, nss, ps, rfl, h1, h2, _, hp, h3⟩
    · simp
    · rw [← hp.length_eq, List.length_flatten]
      cases nss with
      | nil => simp at h2
      | cons a nss =>
        cases ps with
        | nil => simp at h1
        | cons p ps =>
          have := tree_ne (h3 0 a p rfl rfl)
          simp
          omega
theorem gridT_ok : ∀ {n : Nat} {ns : List Str} {d : D}, TreeOf n ns d → GT ns (gridT n d)
  | 0, _, _, h => h.elim
  | n + 1, ns, d, h => by
    rcases h with ⟨s, rfl, rfl⟩ | ⟨r, nss, ps, rfl, h1, h2, _, hp, h3⟩
    · exact ⟨⟨by simp [gridT], by simp [gridT], by simp [gridT, wid], by simp [gridT, wid], by simp [gridT, wid], by simp [gridT]⟩, fm_leaf s⟩
    · cases r with
      | true =>
        show GT ns (joinG _)
        refine (joinG_ok (by simpa using h1) (by omega) fun i ms g e1 e2 => ?_).perm hp
        rw [List.getElem?_map] at e2
        cases hi : ps[i]? with
        | none => rw [hi] at e2; cases e2
        | some p => rw [hi] at e2; cases e2; exact ⟨tree_ne (h3 i ms p e1 hi), gridT_ok (h3 i ms p e1 hi)⟩
      | false =>
        show GT ns (DV.flip (joinG _))
        refine ((joinG_ok (by simpa using h1) (by omega) fun i ms g e1 e2 => ?_).perm hp).flip
        rw [List.getElem?_map] at e2
        cases hi : ps[i]? with
        | none => rw [hi] at e2; cases e2
        | some p => rw [hi] at e2; cases e2; exact ⟨tree_ne (h3 i ms p e1 hi), (gridT_ok (h3 i ms p e1 hi)).flip⟩
end DV
/-! a, b, c, d = a list of four; (a, b), (c, d) = a pair of pairs -/
namespace DV
open PySem PySem.Spec PyProof.Rows L2
section
variable {X : Cx} {W : WX} {tg : Expr}
def dQuadL (i j k m : Nat) : DTG := fun d Γ μ Q _ => match d with
  | .lst [x, y, z, t] => Q ((((Γ.set i (some x)).set j (some y)).set k (some z)).set m (some t)) μ
  | _ => False
theorem dg_quadL {i j k m : Nat} (h : PG X tg (L2.gUnl X.K 4 (gCons (gName i) (gCons (gName j) (gCons (gName k) (gCons (gName m) gNil)))))) : DG X W tg (dQuadL i j k m) := PG.imp h fun v σ H Q ⟨n, d, Γ, μ, Qd, Ed, hH, sr, gr, rp, h, hq, hx⟩ => by
  subst hH
  unfold dQuadL at h
  split at h
  · rename_i x y z t
    cases rp with
    | lst h1 h2 =>
      cases h2 with
      | cons p1 r1 =>
        cases r1 with
        | cons p2 r2 =>
          cases r2 with
          | cons p3 r3 =>
            cases r3 with
            | cons p4 r4 =>
              cases r4
              refine ⟨_, _, rfl, SqL.of (sr.same _ _ h1), rfl, _, _, rfl, _, _, rfl, _, _, rfl, _, _, rfl, rfl, ?_⟩
              exact hq n _ _ μ (Step.refl n) sr ((((gr.set p1 i).set p2 j).set p3 k).set p4 m) h
  · exact h.elim
end
end DV
namespace DV
open PySem PySem.Spec PyProof.Rows L2
/-! the draw family's tables: orders, ways -/
theorem draw_E {μ ext : Mu} {l c : Nat} {m : Int} {Q : D → Mu → Prop} {E : Exn → Mu → Prop} (h : l < μ.length) (hc : 0 < c) (hm : 0 < m) (hm2 : m.natAbs < 2 ^ 60) (q : ∀ d, 0 ≤ d → d < m → Q (.int d) (M μ l (c - 1) ++ ext)) : S_draw [.ref l, .int m] (M μ l c ++ ext) Q E := by
  rw [← M_app h]
  refine draw_M (by rw [List.length_append]; omega) hc hm hm2 fun d h1 h2 => ?_
  rw [M_app h]
  exact q d h1 h2
section
variable {μ r : Mu} {l c : Nat} {x y z : Cell}
theorem mg0 : (M μ l c ++ x :: r)[μ.length]? = some x := by rw [← M_len (μ := μ) (l := l) (c := c)]; exact get_a0
theorem mg1 : (M μ l c ++ x :: y :: r)[μ.length + 1]? = some y := by rw [← M_len (μ := μ) (l := l) (c := c)]; exact get_a1
theorem ms0 : (M μ l c ++ x :: r).set μ.length z = M μ l c ++ z :: r := by rw [← M_len (μ := μ) (l := l) (c := c)]; exact set_a0
theorem ms1 : (M μ l c ++ x :: y :: r).set (μ.length + 1) z = M μ l c ++ x :: z :: r := by rw [← M_len (μ := μ) (l := l) (c := c)]; exact set_a1
theorem lk_M {d : D} (h : l < μ.length) (ho : μ[l]? = some (.orc (c, true))) (ext : Mu) {xs : List D} {c' : Nat} (e : lk μ d = .lst xs ∨ lk μ d = .tup xs) : lk (M μ l c' ++ ext) d = lk μ d := by
  cases d with
  | ref k =>
    rcases e with e | e
    · rcases lk_ref e (by simp) with ⟨_, h1, h2⟩ | ⟨_, h1, h2⟩ | ⟨_, _, h1, h2⟩
      · have : k ≠ l := by rintro rfl; rw [h1] at ho; cases ho
        unfold lk
        dsimp only
        rw [get_app (ext := ext) (show (M μ l c')[k]? = some _ from by rw [M_ne (Ne.symm this)]; exact h1), h1]
      · cases h2
      · cases h2
    · rcases lk_ref e (by simp) with ⟨_, h1, h2⟩ | ⟨_, h1, h2⟩ | ⟨_, _, h1, h2⟩ <;> cases h2
  | _ => rfl
end
/-- the order of some items -/
def S_order : DSp := fun ds μ Q _ => ∃ l c d xs, ds = [.ref l, d] ∧ μ[l]? = some (.orc (c, true)) ∧ (lk μ d = .lst xs ∨ lk μ d = .tup xs) ∧ xs.length ≤ 100 ∧ xs.length ≤ c ∧
  ((D.puL xs = true ∧ ∀ c' ys, c ≤ c' + xs.length → ys.Perm xs → Q (.lst ys) (M μ l c')) ∨ ∀ c' ys d' ext, c ≤ c' + xs.length → ys.Perm xs → See (fun k => μ.length ≤ k) (M μ l c' ++ ext) d' ys → Q d' (M μ l c' ++ ext))
def t_order : DTS := dSeq (dAsg (dCall (gList false) (dCons (dVar 1) dNil)) (dName 2)) (dSeq (dAsg (dCall gLstM (dNil)) (dName 3)) (dSeq (dFor (dRange1 (dCall gLen (dCons (dVar 2) dNil))) (dName 4) (dDrop (dCellM cAppend (dVar 3) (dCons (dCellM cPop (dVar 2) (dCons (dOp S_draw (dCons (dVar 0) (dCons (dCall gLen (dCons (dVar 2) dNil)) (dNil)))) dNil)) dNil)))) (dRet (dVar 3))))
theorem rd_order {n1 n2 n3 n4 n5 : Str} : ∀ ds μ Q E, S_order ds μ Q E → t_order (dFn μ Q E) (start0 [n1, n2, n3, n4, n5] ds) μ := by
  rintro _ μ Q E ⟨l, c, d, xs, rfl, ho, hd, hl, hc, q⟩
  have hlt := orc_lt ho
  have e2 : ∀ Q', gList false [d] μ Q' = Q' (.ref μ.length) (μ ++ [.lst xs]) := fun Q' => by
    unfold gList; dsimp only
    rcases hd with e | e <;> rw [e] <;> rfl
  unfold t_order
  simp only [dSeq, dAsg, dCall, dCons, dNil, dVar, start0, List.map_cons, List.map_nil, List.length_cons, List.length_nil, List.replicate, List.cons_append, List.nil_append, List.getElem?_cons_zero, List.getElem?_cons_succ, e2, dName, List.set_cons_succ, List.set_cons_zero, gLstM, dFor, dRange1]
  refine ⟨by rw [sizeLine_eq]; decide, ?_⟩
  have eM : μ = M μ l c := (M_id ho).symm
  have g2 : ∀ Q' : D → Mu → Prop, gLen [.ref μ.length] (μ ++ [.lst xs] ++ [.lst []]) Q' = Q' (.int xs.length) (μ ++ [.lst xs] ++ [.lst []]) := fun Q' => by
    unfold gLen; dsimp only; rw [lk_cell (by rw [List.append_assoc]; exact get_a0)]
  rw [g2]
  refine ⟨by omega, ?_⟩
  have start : μ ++ [Cell.lst xs] ++ [.lst []] = M μ l c ++ [.lst xs, .lst []] := by rw [← eM]; simp
  rw [start, show (μ ++ [Cell.lst xs]).length = μ.length + 1 from by simp]
  refine loop_inv (src := none) (fun i Γ μ' => ∃ c' left told a, c ≤ c' + i ∧ (told ++ left).Perm xs ∧ told.length = i ∧ Γ = [some (.ref l), some d, some (.ref μ.length), some (.ref (μ.length + 1)), a] ∧ μ' = M μ l c' ++ [.lst left, .lst told]) ⟨c, xs, [], none, by omega, by simp, rfl, rfl, rfl⟩ ?_ ?_
  · rintro i d' Γ μ' hd' ⟨c', left, told, a, h1, h2, h3, rfl, rfl⟩
    obtain ⟨hi, rfl⟩ := irng_get hd'
    refine ⟨trivial, fun Kn kn => ?_⟩
    have hlen := h2.length_eq
    simp only [List.length_append] at hlen
    have hi2 : i < xs.length := by simpa using hi
    simp only [dName, dDrop, dCellM, dCons, dNil, dVar, dOp, dCall, gLen, List.set_cons_succ, List.set_cons_zero, List.getElem?_cons_zero, List.getElem?_cons_succ, mg1, mg0, lk_cell (mg0 (μ := μ) (l := l) (c := c') (x := .lst left) (r := [.lst told]))]
    refine draw_E hlt (by omega) (by omega) (by omega) fun t g2 g3 => ?_
    obtain ⟨y, hy, hp⟩ := pop_at g2 g3 (by omega)
    simp only [mg0, mg1, hp, ms0]
    rw [append_at (by omega)]
    simp only [ms1]
    refine kn _ _ ⟨c' - 1, _, told ++ [y], _, by omega, ?_, by simp; omega, rfl, rfl⟩
    rw [List.append_assoc]
    exact ((perm_pop hy).append_left told).trans h2
  · rintro Γ μ' ⟨c', left, told, a, h1, h2, h3, rfl, rfl⟩
    rw [irng_len] at h1 h3
    have hlen := h2.length_eq
    simp only [List.length_append] at hlen
    have hle : left = [] := List.eq_nil_of_length_eq_zero (by omega)
    subst hle
    rw [List.append_nil] at h2
    refine ⟨trivial, ?_⟩
    simp only [dRet, dVar, List.getElem?_cons_zero, List.getElem?_cons_succ]
    have h1 : c ≤ c' + xs.length := by simpa using h1
    rcases q with ⟨hpu, q⟩ | q
    · refine .inr ⟨M μ l c', [.lst [], .lst told], rfl, M_upd, .inr (.inr (.inr (.inl ⟨1, told, by rw [M_len], rfl, ?_, q c' told h1 h2⟩)))⟩
      rw [puL_iff] at hpu ⊢
      exact fun x hx => hpu x (h2.mem_iff.mp hx)
    · exact FnEnd.here (q c' told _ _ h1 h2 (.inr ⟨_, rfl, by omega, mg1⟩))
def wayD (w : List Nat) : D := .tup (w.map fun n : Nat => D.int (n : Int))
def S_ways : DSp := fun ds μ Q _ => ∃ sz : List Nat, ds = [.lst (sz.map fun n : Nat => D.int (n : Int))] ∧ (∀ n ∈ sz, 1 ≤ n) ∧ prodN sz ≤ 1000 ∧ sz.length ≤ 100 ∧ Q (.lst ((ways sz).map wayD)) μ
def t_ways : DTS := dSeq (dAsg (dCall gLst (dCons (dCall gTup (dNil)) (dNil))) (dName 1)) (dSeq (dFor (dIter (dVar 0)) (dName 2) (dSeq (dAsg (dCall gLst (dNil)) (dName 3)) (dSeq (dFor (dIter (dVar 1)) (dName 4) (dAsg (dBin gAdd (dVar 3) (dComp true [5] (dRange1 (dVar 2)) (cName 5) (dYes) (dBin gAdd (dVar 4) (dCall gTup (dCons (dVar 5) (dNil)))))) (dName 3))) (dAsg (dVar 3) (dName 1))))) (dRet (dVar 1)))
def waysTo (ws : List (List Nat)) (n j : Nat) : List (List Nat) := (ws.take j).flatMap fun w => (List.range n).map fun k => w ++ [k]
theorem pure_ways (ws : List (List Nat)) : D.puL (ws.map wayD) = true := by
  rw [puL_iff]
  intro x hx
  obtain ⟨w, _, rfl⟩ := List.mem_map.mp hx
  show D.puL _ = true
  rw [puL_iff]
  intro y hy
  obtain ⟨n, _, rfl⟩ := List.mem_map.mp hy
  rfl
theorem prod_take_le {sz : List Nat} (h : ∀ n ∈ sz, 1 ≤ n) (i : Nat) : prodN (sz.take i) ≤ prodN sz := by
  have : ∀ (a b : List Nat), (∀ n ∈ b, 1 ≤ n) → prodN a ≤ prodN (a ++ b) := fun a b => by
    refine snoc_ind (P := fun b => (∀ n ∈ b, 1 ≤ n) → prodN a ≤ prodN (a ++ b)) (fun _ => by rw [List.append_nil]; exact Nat.le_refl _) (fun b n ih h => ?_) b
    rw [← List.append_assoc, prod_snoc]
    exact Nat.le_trans (ih fun m hm => h m (List.mem_append_left _ hm)) (Nat.le_mul_of_pos_right _ (h n (by simp)))
  have e := List.take_append_drop i sz
  have := this (sz.take i) (sz.drop i) fun n hn => h n (List.mem_of_mem_drop hn)
  rwa [e] at this
theorem rd_ways {n1 n2 n3 n4 n5 n6 : Str} : ∀ ds μ Q E, S_ways ds μ Q E → t_ways (dFn μ Q E) (start0 [n1, n2, n3, n4, n5, n6] ds) μ := by
  rintro _ μ Q E ⟨sz, rfl, h1, hp, hl, q⟩
  unfold t_ways
  try dsimp only
  rw [dSeq]
  simp only [dAsg, dCall, dCons, dNil, gLst, gTup, start0, List.map_cons, List.map_nil, List.length_cons, List.length_nil, List.replicate, List.cons_append, List.nil_append]
  refine ⟨by decide, by decide, ?_⟩
  simp only [dName, List.set_cons_succ, List.set_cons_zero]
  try dsimp only
  rw [dSeq]
  simp only [dFor, dIter, dVar, List.getElem?_cons_zero]
  refine loop_inv (src := none) (fun i Γ μ' => ∃ a2 a3 a4, i ≤ sz.length ∧ Γ = [some (.lst (sz.map fun n : Nat => D.int (n : Int))), some (.lst ((ways (sz.take i)).map wayD)), a2, a3, a4, none] ∧ μ' = μ) ⟨none, none, none, by omega, rfl, rfl⟩ ?_ ?_
  · rintro i d Γ μ0 hd ⟨a2, a3, a4, hi, rfl, rfl⟩
    have hlt : i < sz.length := by have := (List.getElem?_eq_some_iff.mp hd).1; simpa using this
    rw [List.getElem?_map, List.getElem?_eq_getElem hlt] at hd
    cases hd
    have hn1 := h1 _ (List.getElem_mem hlt)
    have hnext : ways (sz.take (i + 1)) = waysTo (ways (sz.take i)) sz[i] (ways (sz.take i)).length := by
      rw [List.take_succ, List.getElem?_eq_getElem hlt]
      show ways (sz.take i ++ [sz[i]]) = _
      rw [ways_snoc]
      unfold waysTo
      rw [List.take_length]
    have hpn := prod_take_le h1 (i + 1)
    rw [← ways_len] at hpn
    refine ⟨trivial, fun Kn kn => ?_⟩
    simp only [dName, List.set_cons_succ, List.set_cons_zero]
    rw [dSeq]
    simp only [dAsg, dCall, dNil, gLst, List.length_nil]
    refine ⟨by decide, ?_⟩
    simp only [dName, List.set_cons_succ, List.set_cons_zero]
    rw [dSeq]
    simp only [dFor, dIter, dVar, List.getElem?_cons_zero, List.getElem?_cons_succ]
    generalize hws : ways (sz.take i) = ws at hnext
    generalize sz[i] = n at hnext hn1
    rw [hnext] at hpn
    have hle : ∀ j, (waysTo ws n j).length = min j ws.length * n := fun j => by
      unfold waysTo
      rw [flatN_len (n := n) (fun _ => by simp), List.length_take]
    have hpn2 : ws.length * n ≤ 1000 := by
      rw [hle, Nat.min_self] at hpn
      omega
    refine loop_inv (src := none) (fun j Γ μ' => ∃ a4, j ≤ ws.length ∧ Γ = [some (.lst (sz.map fun n : Nat => D.int (n : Int))), some (.lst (ws.map wayD)), some (.int n), some (.lst ((waysTo ws n j).map wayD)), a4, none] ∧ μ' = μ0) ⟨_, by omega, rfl, rfl⟩ ?_ ?_
    · rintro j d Γ μ' hd ⟨a4, hj, rfl, rfl⟩
      have hjt : j < ws.length := by have := (List.getElem?_eq_some_iff.mp hd).1; simpa using this
      rw [List.getElem?_map, List.getElem?_eq_getElem hjt] at hd
      cases hd
      have hwl : ws[j].length ≤ 100 := by
        have := (ways_item (sz.take i) ws[j] (by rw [hws]; exact List.getElem_mem hjt)).1
        rw [this, List.length_take]; omega
      have hj1 : waysTo ws n (j + 1) = waysTo ws n j ++ (List.range n).map fun k => ws[j] ++ [k] := by
        unfold waysTo
        rw [List.take_succ, List.getElem?_eq_getElem hjt, List.flatMap_append]
        simp
      have hle1 := hle (j + 1)
      rw [Nat.min_eq_left (by omega)] at hle1
      have hle2 : (j + 1) * n ≤ ws.length * n := Nat.mul_le_mul_right _ hjt
      have hle3 := hle j
      rw [Nat.min_eq_left hj] at hle3
      have hle4 : (j + 1) * n = j * n + n := Nat.succ_mul j n
      generalize hw : ws[j] = w at hj1 hwl
      refine ⟨trivial, fun Kn kn => ?_⟩
      simp only [dName, List.set_cons_succ, List.set_cons_zero, dAsg, dBin, dComp, dRange1, dVar, List.getElem?_cons_zero, List.getElem?_cons_succ]
      refine ⟨by omega, ?_⟩
      simp only [wipeG, List.set_cons_succ, List.set_cons_zero, Int.toNat_natCast]
      refine comp_rng (v := 5) (fun k => wayD (w ++ [k])) (by rw [sizeLine_eq]; omega) (fun k hk K1 k1 => ?_) ?_
      · simp only [dBin, dCall, dCons, dNil, gTup, dVar, List.set_cons_succ, List.set_cons_zero, List.getElem?_cons_zero, List.getElem?_cons_succ, List.length_cons, List.length_nil, gAdd, wayD, lk, Int.zero_add]
        refine ⟨by decide, by rw [List.length_map, sizeLine_eq]; omega, ?_⟩
        have e : (w.map fun n : Nat => D.int (n : Int)) ++ [D.int (k : Int)] = (w ++ [k]).map fun n : Nat => D.int (n : Int) := by simp
        rw [e]
        exact k1
      · simp only [dFin, gAdd, lk]
        refine ⟨by rw [List.length_map, List.length_map, List.length_range, sizeLine_eq]; omega, ?_⟩
        refine kn _ _ ⟨some (wayD w), by omega, ?_, rfl⟩
        rw [hj1, List.map_append, List.map_map]
        rfl
    · rintro Γ μ' ⟨a4, hj, rfl, rfl⟩
      refine ⟨trivial, ?_⟩
      rw [List.length_map] at hj ⊢
      simp only [dAsg, dVar, dName, List.getElem?_cons_zero, List.getElem?_cons_succ, List.set_cons_succ, List.set_cons_zero]
      rw [show waysTo ws n ws.length = ways (sz.take (i + 1)) from hnext.symm]
      exact kn _ _ ⟨_, _, _, by omega, rfl, rfl⟩
  · rintro Γ μ' ⟨a2, a3, a4, hi, rfl, rfl⟩
    refine ⟨trivial, ?_⟩
    rw [List.length_map, List.take_length]
    simp only [dRet, dVar, List.getElem?_cons_zero, List.getElem?_cons_succ]
    refine FnEnd.pure0 (Upd.refl _) ?_ q
    exact pure_ways _
end DV
namespace DV
open PySem PySem.Spec PyProof.Rows L2
/-! mixed and smooth tables of the draw family -/
abbrev rowD (s : List Str) : D := .lst (s.map .str)
def Mix (g g' : List (List Str)) : Prop := ∃ g1 g2 : List (List Str), g1.Perm g ∧ g2.Perm (flip g1) ∧ g' = flip g2
theorem GB.permR {W : List Str} {n : Nat} {g g1 : List (List Str)} (h : GB W n g) (p : g1.Perm g) : GB W n g1 := by
  have hw : wid g1 = wid g := by
    cases g1 with
    | nil => exact absurd p.length_eq (by have := h.h1; simp; omega)
    | cons r g1 => exact h.eq r (p.mem_iff.mp List.mem_cons_self)
  exact ⟨by rw [p.length_eq]; exact h.h1, by rw [p.length_eq]; exact h.h2, by rw [hw]; exact h.w1, by rw [hw]; exact h.w2, fun r hr => by rw [hw]; exact h.eq r (p.mem_iff.mp hr), fun r hr => h.mem r (p.mem_iff.mp hr)⟩
theorem Mix.gb {W : List Str} {n : Nat} {g g' : List (List Str)} (m : Mix g g') (h : GB W n g) : GB W n g' := by
  obtain ⟨g1, g2, p1, p2, rfl⟩ := m
  exact ((h.permR p1).flip.permR p2).flip
/-- the rows of a table in another order -/
theorem see_perm {p : Nat → Prop} {μ : Mu} {rows ys : List D} {g : List (List Str)} (hl : rows.length = g.length) (hr : ∀ (i : Nat) s, g[i]? = some s → ∃ r, rows[i]? = some r ∧ See p μ r (s.map .str)) (hp : ys.Perm rows) :
    ∃ g1 : List (List Str), g1.Perm g ∧ ys.length = g1.length ∧ ∀ (i : Nat) s, g1[i]? = some s → ∃ r, ys[i]? = some r ∧ See p μ r (s.map .str) := by
  have e1 : rows = (rows.zip g).map (·.1) := by rw [List.map_fst_zip (by omega)]
  have e2 : g = (rows.zip g).map (·.2) := by rw [List.map_snd_zip (by omega)]
  obtain ⟨L, f1, f2⟩ := perm_map_inv hp e1
  refine ⟨L.map (·.2), ?_, by rw [f1]; simp, fun i s hs => ?_⟩
  · have := f2.map (·.2)
    rw [← e2] at this
    exact this
  · rw [List.getElem?_map] at hs
    cases hi : L[i]? with
    | none => rw [hi] at hs; cases hs
    | some z =>
      rw [hi] at hs
      cases hs
      have hz := f2.mem_iff.mp (List.mem_of_getElem? hi)
      obtain ⟨k, hk, ez⟩ := List.getElem_of_mem hz
      rw [List.length_zip] at hk
      rw [List.getElem_zip] at ez
      obtain ⟨r, q1, q2⟩ := hr k g[k] (List.getElem?_eq_getElem (by omega))
      rw [List.getElem?_eq_getElem (by omega)] at q1
      cases q1
      refine ⟨z.1, by rw [f1, List.getElem?_map, hi]; rfl, ?_⟩
      rw [← ez]
      exact q2
theorem See.orcM {p : Nat → Prop} {μ : Mu} {d : D} {xs : List D} {l c c' : Nat} (ho : μ[l]? = some (.orc (c, true))) (h : See p μ d xs) : See p (M μ l c') d xs := by
  rcases h with rfl | ⟨k, rfl, hk, e⟩
  · exact .inl rfl
  · refine .inr ⟨k, rfl, hk, ?_⟩
    rw [M_ne (by rintro rfl; rw [e] at ho; cases ho)]
    exact e
theorem See.appE {p : Nat → Prop} {μ : Mu} {d : D} {xs : List D} (ext : Mu) (h : See p μ d xs) : See p (μ ++ ext) d xs := by
  rcases h with rfl | ⟨k, rfl, hk, e⟩
  · exact .inl rfl
  · exact .inr ⟨k, rfl, hk, get_app e⟩
theorem See.impP {p q : Nat → Prop} {μ : Mu} {d : D} {xs : List D} (h : See p μ d xs) (hp : ∀ l, p l → q l) : See q μ d xs := by
  rcases h with rfl | ⟨k, rfl, hk, e⟩
  · exact .inl rfl
  · exact .inr ⟨k, rfl, hp _ hk, e⟩
theorem gridP_pu (g : List (List Str)) : D.puL (g.map fun s => D.lst (s.map .str)) = true := by
  rw [puL_iff]
  intro x hx
  obtain ⟨s, _, rfl⟩ := List.mem_map.mp hx
  show D.puL _ = true
  rw [puL_iff]
  intro y hy
  obtain ⟨z, _, rfl⟩ := List.mem_map.mp hy
  rfl
def S_mixed : DSp := fun ds μ Q _ => ∃ l c d g W n, ds = [.ref l, d] ∧ μ[l]? = some (.orc (c, true)) ∧ GSee (fun _ => True) μ d g ∧ GB W n g ∧ n ≤ 100 ∧ 2 * n ≤ c ∧ ∀ c' g', c ≤ c' + 2 * n → Mix g g' → Q (gridD g') (M μ l c')
def t_mixed : DTS := dRet (dOp S_flipped (dCons (dOp S_order (dCons (dVar 0) (dCons (dOp S_flipped (dCons (dOp S_order (dCons (dVar 0) (dCons (dVar 1) (dNil)))) (dNil))) (dNil)))) (dNil)))
theorem grid_pu1 (g : List (List Str)) : (gridD g).pu = true := gridP_pu g
theorem rd_mixed {n1 n2 : Str} : ∀ ds μ Q E, S_mixed ds μ Q E → t_mixed (dFn μ Q E) (start0 [n1, n2] ds) μ := by
  rintro _ μ Q E ⟨l, c, d, g, W, n, rfl, ho, hs, hg, hn, hc, q⟩
  have hlt := orc_lt ho
  unfold t_mixed
  simp only [dRet, dOp, dCons, dNil, dVar, start0, List.map_cons, List.map_nil, List.length_cons, List.length_nil, List.replicate, List.cons_append, List.nil_append, List.getElem?_cons_zero, List.getElem?_cons_succ]
  obtain ⟨rows, h1, h2, h3⟩ := hs
  have hg2 := hg.h2
  have hw2 := hg.w2
  refine ⟨l, c, d, rows, rfl, ho, .inl h1.lk, by omega, by omega, .inr fun c1 ys d' ext hc1 hp hs' => ?_⟩
  rw [h2] at hc1
  obtain ⟨g1, p1, y1, y2⟩ := see_perm h2 h3 hp
  have b1 := hg.permR p1
  have b1h := b1.h2
  have b1w := b1.w2
  have gs : GSee (fun _ => True) (M μ l c1 ++ ext) d' g1 := ⟨ys, hs'.impP fun _ _ => trivial, y1, fun i s e => by
    obtain ⟨r, q1, q2⟩ := y2 i s e
    exact ⟨r, q1, (q2.orcM ho).appE ext⟩⟩
  refine ⟨d', g1, W, n, rfl, gs, b1, by omega, .inl ?_⟩
  have ho1 : (M μ l c1 ++ ext)[l]? = some (.orc (c1, true)) := get_app (M_get hlt)
  have fl : ((flip g1).map rowD).length = wid g1 := by rw [List.length_map, flip_len]
  refine ⟨l, c1, gridD (flip g1), (flip g1).map rowD, rfl, ho1, .inl rfl, by rw [fl]; omega, by rw [fl]; omega, .inl ⟨gridP_pu _, fun c2 ys2 hc2 hp2 => ?_⟩⟩
  rw [fl] at hc2
  obtain ⟨g2, rfl, p2⟩ := perm_map_inv hp2 rfl
  have b2 := b1.flip.permR p2
  refine ⟨_, g2, W, n, rfl, GSee.data, b2, by omega, .inl ?_⟩
  rw [M_app (by rw [M_len]; exact hlt), show M (M μ l c1) l c2 = M μ l c2 from M_set]
  exact FnEnd.pure M_upd (grid_pu1 _) (q c2 _ (by omega) ⟨g1, g2, p1, p2, rfl⟩)
/-! growing a table by lines that leave it firm -/
theorem wid_app {g : List (List Str)} {r : List Str} (h : 1 ≤ g.length) : wid (g ++ [r]) = wid g := by
  cases g with
  | nil => simp at h
  | cons s g => rfl
def cOf (g : List (List Str)) (f : List Str → Str) : List (List Str) := g.map fun r => r ++ [f r]
theorem wid_cOf {g : List (List Str)} {f : List Str → Str} (h : 1 ≤ g.length) : wid (cOf g f) = wid g + 1 := by
  cases g with
  | nil => simp at h
  | cons s g => simp [cOf, wid]
theorem gb_row {W : List Str} {n : Nat} {g : List (List Str)} {r : List Str} (h : GB W n g) (hr : r.length = wid g) (hm : ∀ x ∈ r, x ∈ W) : GB W (n + 1) (g ++ [r]) := by
  have hw := wid_app (r := r) h.h1
  refine ⟨by simp, by rw [List.length_append]; have := h.h2; simp; omega, by rw [hw]; exact h.w1, by rw [hw]; have := h.w2; omega, fun s hs => ?_, fun s hs => ?_⟩
  · rw [hw]
    rcases List.mem_append.mp hs with z | z
    · exact h.eq s z
    · rw [List.mem_singleton.mp z]; exact hr
  · rcases List.mem_append.mp hs with z | z
    · exact h.mem s z
    · rw [List.mem_singleton.mp z]; exact hm
theorem gb_col {W : List Str} {n : Nat} {g : List (List Str)} {f : List Str → Str} (h : GB W n g) (hm : ∀ r ∈ g, f r ∈ W) : GB W (n + 1) (cOf g f) := by
  have hw := wid_cOf (f := f) h.h1
  have a1 := h.h2
  have a2 := h.w2
  refine ⟨by simp [cOf]; exact h.h1, by simp [cOf]; omega, by omega, by omega, fun s hs => ?_, fun s hs x hx => ?_⟩
  · obtain ⟨r, hr, rfl⟩ := List.mem_map.mp hs
    rw [hw, List.length_append, h.eq r hr]; rfl
  · obtain ⟨r, hr, rfl⟩ := List.mem_map.mp hs
    rcases List.mem_append.mp hx with z | z
    · exact h.mem r hr x z
    · rw [List.mem_singleton.mp z]; exact hm r hr
theorem fm_row1 {g : List (List Str)} {w : Str} {r : List Str} (hg : 1 ≤ g.length) (h : Fm g) (hr : r.length = wid g) (hw : ∀ x ∈ r, x = w) : Fm (g ++ [r]) := by
  intro S
  by_cases hS : S w
  · exact .inl ⟨r, by simp, fun x hx => by rw [hw x hx]; exact hS⟩
  · rcases h S with ⟨s, hs, hx⟩ | ⟨j, hj, hx⟩
    · exact .inl ⟨s, List.mem_append_left _ hs, hx⟩
    · refine .inr ⟨j, by rw [wid_app hg]; exact hj, fun s hs => ?_⟩
      rcases List.mem_append.mp hs with z | z
      · exact hx s z
      · rw [List.mem_singleton.mp z, List.getD_eq_getElem?_getD, List.getElem?_eq_getElem (by omega)]
        have := hw r[j] (List.getElem_mem _)
        show ¬ S r[j]
        rw [this]; exact hS
theorem fm_row2 {g : List (List Str)} {r : List Str} (hg : 1 ≤ g.length) (h : Fm g) (hr : r ∈ g) : Fm (g ++ [r]) := by
  intro S
  rcases h S with ⟨s, hs, hx⟩ | ⟨j, hj, hx⟩
  · exact .inl ⟨s, List.mem_append_left _ hs, hx⟩
  · refine .inr ⟨j, by rw [wid_app hg]; exact hj, fun s hs => ?_⟩
    rcases List.mem_append.mp hs with z | z
    · exact hx s z
    · rw [List.mem_singleton.mp z]; exact hx r hr
theorem fm_col1 {W : List Str} {n : Nat} {g : List (List Str)} {w : Str} (b : GB W n g) (h : Fm g) : Fm (cOf g fun _ => w) := by
  intro S
  by_cases hS : S w
  · rcases h S with ⟨s, hs, hx⟩ | ⟨j, hj, hx⟩
    · refine .inl ⟨s ++ [w], List.mem_map.mpr ⟨s, hs, rfl⟩, fun x hx2 => ?_⟩
      rcases List.mem_append.mp hx2 with z | z
      · exact hx x z
      · rw [List.mem_singleton.mp z]; exact hS
    · refine .inr ⟨j, by rw [wid_cOf b.h1]; omega, fun s hs => ?_⟩
      obtain ⟨r, hr, rfl⟩ := List.mem_map.mp hs
      have := hx r hr
      have hl := b.eq r hr
      rw [List.getD_eq_getElem?_getD] at this ⊢
      rw [List.getElem?_append_left (by omega)]
      exact this
  · refine .inr ⟨wid g, by rw [wid_cOf b.h1]; omega, fun s hs => ?_⟩
    obtain ⟨r, hr, rfl⟩ := List.mem_map.mp hs
    have hl := b.eq r hr
    rw [List.getD_eq_getElem?_getD, List.getElem?_append_right (by omega), hl]
    simpa using hS
theorem fm_col2 {W : List Str} {n : Nat} {g : List (List Str)} {k : Nat} (b : GB W n g) (hk : k < wid g) (h : Fm g) : Fm (cOf g fun r => r.getD k Str.empty) := by
  intro S
  rcases h S with ⟨s, hs, hx⟩ | ⟨j, hj, hx⟩
  · refine .inl ⟨_, List.mem_map.mpr ⟨s, hs, rfl⟩, fun x hx2 => ?_⟩
    have hl := b.eq s hs
    rcases List.mem_append.mp hx2 with z | z
    · exact hx x z
    · rw [List.mem_singleton.mp z]
      show S (s.getD k Str.empty)
      rw [List.getD_eq_getElem?_getD, List.getElem?_eq_getElem (by omega)]
      exact hx _ (List.getElem_mem _)
  · refine .inr ⟨j, by rw [wid_cOf b.h1]; omega, fun s hs => ?_⟩
    obtain ⟨r, hr, rfl⟩ := List.mem_map.mp hs
    have := hx r hr
    have hl := b.eq r hr
    rw [List.getD_eq_getElem?_getD] at this ⊢
    rw [List.getElem?_append_left (by omega)]
    exact this
/-! evaluation -/
theorem if_int {v : Nat} {k p : Int} {Γ : Gam} {μ : Mu} {De : DEnds} {a b : DTS} (h : Γ[v]? = some (some (.int p))) (hq : if p = k then a De Γ μ else b De Γ μ) : dIf (dTest (dBin gEq (dVar v) (dC (.int k)))) a b De Γ μ := by
  simp only [dIf, dTest, dBin, dVar, dC, h, gEq, deq_int]
  refine ⟨deqOk_int _ _ _, ?_⟩
  by_cases e : p = k
  · rw [if_pos e] at hq; rw [decide_eq_true e]; exact hq
  · rw [if_neg e] at hq; rw [decide_eq_false e]; exact hq
theorem gridA_len {g : List (List Str)} {μ : Mu} {Q : D → Mu → Prop} : gLen [gridD g] μ Q = Q (.int g.length) μ := by
  unfold gLen gridD; simp only [lk]; rw [List.length_map]
theorem gridA_ix {g : List (List Str)} {i : Nat} (hi : i < g.length) {μ : Mu} (Q : D → Mu → Prop) : gIx (gridD g) (.int (i : Int)) μ Q = Q (rowD g[i]) μ := by
  have : atI (g.map rowD) (i : Int) = some (rowD g[i]) := atI_ix (by rw [List.getElem?_map, List.getElem?_eq_getElem hi]; rfl)
  unfold gIx gridD; simp only [lk]
  show (match atI (g.map rowD) (i : Int) with | some d => Q d μ | none => False) = _
  rw [this]
theorem gridA_ix0 {W : List Str} {n : Nat} {g : List (List Str)} (b : GB W n g) : ∃ r0, r0 ∈ g ∧ r0.length = wid g ∧ ∀ (μ : Mu) (Q : D → Mu → Prop), gIx (gridD g) (.int 0) μ Q = Q (rowD r0) μ := by
  have h0 : 0 < g.length := b.h1
  exact ⟨g[0], List.getElem_mem h0, b.eq _ (List.getElem_mem h0), fun μ Q => gridA_ix h0 Q⟩
/-- a comprehension over the rows of a table -/
theorem comp_rows {v : Nat} {te : DTE} {Γ : Gam} {μ : Mu} {Q : List D → Mu → Prop} {g : List (List Str)} (f : List Str → D) (hl : g.length ≤ 10000) (h : ∀ r ∈ g, ∀ K1 : D → Mu → Prop, K1 (f r) μ → te (Γ.set v (some (rowD r))) μ K1 (fun _ _ => False)) (q : Q (g.map f) μ) :
    dCompL none (cName v) dYes te Γ (g.map rowD) [] μ Q := by
  refine comp_listA (g.map f) trivial (by simp) (by rw [sizeLine_eq]; simp only [List.length_nil, List.length_map]; omega) (fun i d y hd hy L1 L2 l1 => ?_) (by simpa using q)
  rw [List.getElem?_map] at hd hy
  cases hi : g[i]? with
  | none => rw [hi] at hd; cases hd
  | some r =>
    rw [hi] at hd hy
    cases hd; cases hy
    simp only [cName, dYes, cond_true]
    exact h r (List.mem_of_getElem? hi) _ l1
theorem comp_strs {v : Nat} {te : DTE} {Γ : Gam} {μ : Mu} {Q : List D → Mu → Prop} {s : List Str} (f : Str → D) (hl : s.length ≤ 10000) (h : ∀ x ∈ s, ∀ K1 : D → Mu → Prop, K1 (f x) μ → te (Γ.set v (some (.str x))) μ K1 (fun _ _ => False)) (q : Q (s.map f) μ) :
    dCompL none (cName v) dYes te Γ (s.map .str) [] μ Q := by
  refine comp_listA (s.map f) trivial (by simp) (by rw [sizeLine_eq]; simp only [List.length_nil, List.length_map]; omega) (fun i d y hd hy L1 L2 l1 => ?_) (by simpa using q)
  rw [List.getElem?_map] at hd hy
  cases hi : s[i]? with
  | none => rw [hi] at hd; cases hd
  | some r =>
    rw [hi] at hd hy
    cases hd; cases hy
    simp only [cName, dYes, cond_true]
    exact h r (List.mem_of_getElem? hi) _ l1
theorem cOf_rows (g : List (List Str)) (f : List Str → Str) : D.lst (g.map fun r => .lst (r.map D.str ++ [D.str (f r)])) = gridD (cOf g f) := by
  unfold gridD cOf
  rw [List.map_map]
  congr 1
  refine List.map_congr_left fun r _ => ?_
  simp
theorem app_row (g : List (List Str)) (r : List Str) : D.lst ((g.map fun s => .lst (s.map D.str)) ++ [rowD r]) = gridD (g ++ [r]) := by
  unfold gridD; rw [List.map_append]; rfl
/-- [word for cell in row] -/
theorem ev_const {vr vw vc : Nat} {Γ : Gam} {μ : Mu} {W : List Str} {n : Nat} {g : List (List Str)} {w : Str} {Q : D → Mu → Prop} {E : Exn → Mu → Prop} (b : GB W n g) (hn : n ≤ 1000) (h1 : Γ[vr]? = some (some (gridD g))) (h2 : (wipeG Γ [vc])[vw]? = some (some (.str w))) (hne : vw ≠ vc)
    (q : ∀ r : List Str, r.length = wid g → (∀ x ∈ r, x = w) → Q (rowD r) μ) : dComp true [vc] (dIter (dBin gIx (dVar vr) (dC (.int 0)))) (cName vc) dYes (dVar vw) Γ μ Q E := by
  obtain ⟨r0, hr0, hl0, e0⟩ := gridA_ix0 b
  have hw := b.w2
  unfold dComp dIter
  simp only [dBin, dVar, dC, h1, e0]
  refine comp_strs (fun _ => .str w) (by omega) (fun x hx K1 k1 => ?_) ?_
  · unfold dVar; rw [List.getElem?_set_ne (Ne.symm hne), h2]; exact k1
  · have := q (r0.map fun _ => w) (by rw [List.length_map, hl0]) (fun x hx => by obtain ⟨_, _, rfl⟩ := List.mem_map.mp hx; rfl)
    rw [rowD, List.map_map] at this
    exact this
/-- a table of lines that leave it smooth -/
structure SmG (ns : List Str) (n : Nat) (g : List (List Str)) : Prop where
  b : GB ns n g
  f : Fm g
def S_smooth : DSp := fun ds μ Q _ => ∃ l c ns, ds = [.ref l, .lst (ns.map .str)] ∧ μ[l]? = some (.orc (c, true)) ∧ 1 ≤ ns.length ∧ ns.length ≤ 100 ∧ 60 ≤ c ∧ ∀ c' g g', c ≤ c' + 60 → SmG ns 8 g → Mix g g' → Q (gridD g') (M μ l c')
def t_smooth_2 : DTS := dRet (dOp S_mixed (dCons (dVar 0) (dCons (dVar 2) (dNil))))
def t_smooth_1 : DTS := dSeq (dFor (dRange1 (dOp S_draw (dCons (dVar 0) (dCons (dC (.int 8)) (dNil))))) (dName 3) (dSeq (dAsg (dBin gIx (dVar 1) (dOp S_draw (dCons (dVar 0) (dCons (dCall gLen (dCons (dVar 1) dNil)) (dNil))))) (dName 4)) (dSeq (dAsg (dOp S_draw (dCons (dVar 0) (dCons (dC (.int 4)) (dNil)))) (dName 5)) (dSeq (dIf (dTest (dBin gEq (dVar 5) (dC (.int 0)))) (dAsg (dBin gAdd (dVar 2) (dCall gLst (dCons (dComp true [8] (dIter (dBin gIx (dVar 2) (dC (.int 0)))) (cName 8) (dYes) (dVar 4)) (dNil)))) (dName 2)) (dNext)) (dSeq (dIf (dTest (dBin gEq (dVar 5) (dC (.int 1)))) (dAsg (dComp true [7] (dIter (dVar 2)) (cName 7) (dYes) (dBin gAdd (dVar 7) (dCall gLst (dCons (dVar 4) (dNil))))) (dName 2)) (dNext)) (dSeq (dIf (dTest (dBin gEq (dVar 5) (dC (.int 2)))) (dAsg (dBin gAdd (dVar 2) (dCall gLst (dCons (dCall (gList true) (dCons (dBin gIx (dVar 2) (dOp S_draw (dCons (dVar 0) (dCons (dCall gLen (dCons (dVar 2) dNil)) (dNil))))) dNil)) (dNil)))) (dName 2)) (dNext)) (dIf (dTest (dBin gEq (dVar 5) (dC (.int 3)))) (dSeq (dAsg (dOp S_draw (dCons (dVar 0) (dCons (dCall gLen (dCons (dBin gIx (dVar 2) (dC (.int 0))) dNil)) (dNil)))) (dName 6)) (dAsg (dComp true [7] (dIter (dVar 2)) (cName 7) (dYes) (dBin gAdd (dVar 7) (dCall gLst (dCons (dBin gIx (dVar 7) (dVar 6)) (dNil))))) (dName 2))) (dNext)))))))) (t_smooth_2)
def t_smooth : DTS := dSeq (dAsg (dCall gLst (dCons (dCall gLst (dCons (dBin gIx (dVar 1) (dOp S_draw (dCons (dVar 0) (dCons (dCall gLen (dCons (dVar 1) dNil)) (dNil))))) (dNil))) (dNil))) (dName 2)) (t_smooth_1)
section
variable {μ : Mu} {l c i : Nat} {ns : List Str} {g : List (List Str)} {w : Str} {Kn : Gam → Mu → Prop} {De : DEnds} {a3 a6 : Option D}
theorem smooth_step (hlt : l < μ.length) (hn : 1 ≤ ns.length) (hn2 : ns.length ≤ 100) (hi : i ≤ 6) (hg : SmG ns (i + 1) g) (hc : 3 ≤ c) {a4 a5 : Option D}
    (kn : ∀ c' a4 a5 a6 g', c ≤ c' + 3 → SmG ns (i + 2) g' → Kn [some (.ref l), some (.lst (ns.map .str)), some (gridD g'), a3, a4, a5, a6, none, none] (M μ l c')) :
    (dSeq (dAsg (dBin gIx (dVar 1) (dOp S_draw (dCons (dVar 0) (dCons (dCall gLen (dCons (dVar 1) dNil)) (dNil))))) (dName 4)) (dSeq (dAsg (dOp S_draw (dCons (dVar 0) (dCons (dC (.int 4)) (dNil)))) (dName 5)) (dSeq (dIf (dTest (dBin gEq (dVar 5) (dC (.int 0)))) (dAsg (dBin gAdd (dVar 2) (dCall gLst (dCons (dComp true [8] (dIter (dBin gIx (dVar 2) (dC (.int 0)))) (cName 8) (dYes) (dVar 4)) (dNil)))) (dName 2)) (dNext)) (dSeq (dIf (dTest (dBin gEq (dVar 5) (dC (.int 1)))) (dAsg (dComp true [7] (dIter (dVar 2)) (cName 7) (dYes) (dBin gAdd (dVar 7) (dCall gLst (dCons (dVar 4) (dNil))))) (dName 2)) (dNext)) (dSeq (dIf (dTest (dBin gEq (dVar 5) (dC (.int 2)))) (dAsg (dBin gAdd (dVar 2) (dCall gLst (dCons (dCall (gList true) (dCons (dBin gIx (dVar 2) (dOp S_draw (dCons (dVar 0) (dCons (dCall gLen (dCons (dVar 2) dNil)) (dNil))))) dNil)) (dNil)))) (dName 2)) (dNext)) (dIf (dTest (dBin gEq (dVar 5) (dC (.int 3)))) (dSeq (dAsg (dOp S_draw (dCons (dVar 0) (dCons (dCall gLen (dCons (dBin gIx (dVar 2) (dC (.int 0))) dNil)) (dNil)))) (dName 6)) (dAsg (dComp true [7] (dIter (dVar 2)) (cName 7) (dYes) (dBin gAdd (dVar 7) (dCall gLst (dCons (dBin gIx (dVar 7) (dVar 6)) (dNil))))) (dName 2))) (dNext))))))) { De with nx := Kn } [some (.ref l), some (.lst (ns.map .str)), some (gridD g), a3, a4, a5, a6, none, none] (M μ l c) := by
  have bg := hg.b
  have g2 := bg.h2
  have w2 := bg.w2
  have w1 := bg.w1
  have z : M μ l c = M μ l c ++ [] := by simp
  rw [dSeq]
  simp only [dAsg, dBin, dOp, dCall, dCons, dNil, dVar, List.getElem?_cons_zero, List.getElem?_cons_succ, gLen, lk, List.length_map]
  refine draw_M hlt (by omega) (by omega) (by omega) fun j j0 j1 => ?_
  obtain ⟨w, hw, ew⟩ := word_at (W := ns) j0 (by omega)
  simp only [gIx, lk, ew, dName, List.set_cons_succ, List.set_cons_zero]
  rw [dSeq]
  simp only [dAsg, dOp, dCons, dNil, dVar, dC, List.getElem?_cons_zero, List.getElem?_cons_succ]
  refine draw_M hlt (by omega) (by decide) (by decide) fun p p0 p1 => ?_
  simp only [dName, List.set_cons_succ, List.set_cons_zero]
  have hp : p = 0 ∨ p = 1 ∨ p = 2 ∨ p = 3 := by omega
  rw [dSeq]
  refine if_int (p := p) rfl ?_
  rcases hp with rfl | hp
  · rw [if_pos rfl]
    simp only [dAsg, dCall, dCons, dNil]
    rw [dBin]
    simp only [dVar, List.getElem?_cons_zero, List.getElem?_cons_succ, dCall, dCons, dNil]
    refine ev_const bg (by omega) rfl rfl (by decide) fun r hr hx => ?_
    simp only [gLst, List.length_cons, List.length_nil, gridD]
    refine ⟨by decide, ?_⟩
    simp only [gAdd, lk]
    refine ⟨by rw [List.length_map, sizeLine_eq]; simp; omega, ?_⟩
    rw [app_row]
    simp only [dName, List.set_cons_succ, List.set_cons_zero]
    try dsimp only
    rw [dSeq]
    refine if_int (p := 0) rfl ?_
    rw [if_neg (by decide)]
    rw [dNext]
    try dsimp only
    rw [dSeq]
    refine if_int (p := 0) rfl ?_
    rw [if_neg (by decide)]
    rw [dNext]
    try dsimp only
    refine if_int (p := 0) rfl ?_
    rw [if_neg (by decide)]
    exact kn _ _ _ _ _ (by omega) ⟨gb_row bg hr fun x h => by rw [hx x h]; exact hw, fm_row1 bg.h1 hg.f hr hx⟩
  have hp0 : p ≠ 0 := by omega
  rw [if_neg hp0]
  rw [dNext]
  try dsimp only
  rw [dSeq]
  refine if_int (p := p) rfl ?_
  rcases hp with rfl | hp
  · rw [if_pos rfl]
    simp only [dAsg, dComp, dIter, dVar, List.getElem?_cons_zero, List.getElem?_cons_succ, gridD, wipeG, List.set_cons_succ, List.set_cons_zero]
    refine comp_rows (fun r => .lst (r.map D.str ++ [D.str w])) (by omega) (fun r hr K1 k1 => ?_) ?_
    · have := bg.eq r hr
      simp only [dBin, dCall, dCons, dNil, dVar, List.set_cons_succ, List.set_cons_zero, List.getElem?_cons_zero, List.getElem?_cons_succ, gLst, List.length_cons, List.length_nil]
      refine ⟨by decide, ?_⟩
      simp only [gAdd, lk]
      exact ⟨by rw [List.length_map, sizeLine_eq]; simp; omega, k1⟩
    · rw [dFin, cOf_rows g fun _ => w]
      simp only [dName, List.set_cons_succ, List.set_cons_zero]
      try dsimp only
      rw [dSeq]
      refine if_int (p := 1) rfl ?_
      rw [if_neg (by decide)]
      rw [dNext]
      try dsimp only
      refine if_int (p := 1) rfl ?_
      rw [if_neg (by decide)]
      exact kn _ _ _ _ _ (by omega) ⟨gb_col bg fun _ _ => hw, fm_col1 bg hg.f⟩
  have hp1 : p ≠ 1 := by omega
  rw [if_neg hp1]
  rw [dNext]
  try dsimp only
  rw [dSeq]
  refine if_int (p := p) rfl ?_
  rcases hp with rfl | rfl
  · rw [if_pos rfl]
    simp only [dAsg, dCall, dCons, dNil, dBin, dOp, dVar, List.getElem?_cons_zero, List.getElem?_cons_succ, gridA_len]
    refine draw_M hlt (by omega) (by have := bg.h1; omega) (by omega) fun k k0 k1 => ?_
    obtain ⟨k, rfl⟩ : ∃ k' : Nat, k = (k' : Int) := ⟨k.toNat, by omega⟩
    have hk : k < g.length := by omega
    rw [gridA_ix hk]
    have hr := List.getElem_mem hk
    have hrl := bg.eq _ hr
    generalize g[k] = r at hr hrl
    simp only [gList, lk, gLst, List.length_cons, List.length_nil, gridD, dFinD]
    try refine ⟨by decide, ?_⟩
    simp only [gAdd, lk]
    refine ⟨by rw [List.length_map, sizeLine_eq]; simp; omega, ?_⟩
    rw [app_row]
    simp only [dName, List.set_cons_succ, List.set_cons_zero]
    refine if_int (p := 2) rfl ?_
    rw [if_neg (by decide)]
    exact kn _ _ _ _ _ (by omega) ⟨gb_row bg hrl (bg.mem r hr), fm_row2 bg.h1 hg.f hr⟩
  · rw [if_neg (by decide)]
    rw [dNext]
    try dsimp only
    refine if_int (p := 3) rfl ?_
    rw [if_pos rfl]
    obtain ⟨r0, hr0, hl0, e0⟩ := gridA_ix0 bg
    rw [dSeq]
    simp only [dAsg, dCall, dCons, dNil, dBin, dOp, dC, dVar, List.getElem?_cons_zero, List.getElem?_cons_succ, e0, gLen, lk, List.length_map, hl0]
    refine draw_M hlt (by omega) (by omega) (by omega) fun k k0 k1 => ?_
    obtain ⟨k, rfl⟩ : ∃ k' : Nat, k = (k' : Int) := ⟨k.toNat, by omega⟩
    have hk : k < wid g := by omega
    simp only [dName, List.set_cons_succ, List.set_cons_zero, dComp, dIter, dVar, List.getElem?_cons_zero, List.getElem?_cons_succ, gridD, wipeG]
    refine comp_rows (fun r => .lst (r.map D.str ++ [D.str (r.getD k Str.empty)])) (by omega) (fun r hr K1 k1 => ?_) ?_
    · have := bg.eq r hr
      have ek : atI (r.map D.str) (k : Int) = some (D.str (r.getD k Str.empty)) := atI_ix (by rw [List.getElem?_map, List.getElem?_eq_getElem (by omega), List.getD_eq_getElem?_getD, List.getElem?_eq_getElem (by omega)]; rfl)
      simp only [dBin, dCall, dCons, dNil, dVar, wipeG, List.set_cons_succ, List.set_cons_zero, List.getElem?_cons_zero, List.getElem?_cons_succ, gIx, lk, gLst, List.length_cons, List.length_nil]
      rw [ek]
      dsimp only
      refine ⟨by decide, ?_⟩
      simp only [gAdd, lk]
      exact ⟨by rw [List.length_map, sizeLine_eq]; simp; omega, k1⟩
    · rw [dFin, cOf_rows g fun r => r.getD k Str.empty]
      simp only [List.set_cons_succ, List.set_cons_zero]
      exact kn _ _ _ _ _ (by omega) ⟨gb_col bg fun r hr => by
        have := bg.eq r hr
        rw [List.getD_eq_getElem?_getD, List.getElem?_eq_getElem (by omega)]
        exact bg.mem r hr _ (List.getElem_mem _), fm_col2 bg hk hg.f⟩
end
theorem rd_smooth {n1 n2 n3 n4 n5 n6 n7 n8 n9 : Str} : ∀ ds μ Q E, S_smooth ds μ Q E → t_smooth (dFn μ Q E) (start0 [n1, n2, n3, n4, n5, n6, n7, n8, n9] ds) μ := by
  rintro _ μ Q E ⟨l, c, ns, rfl, ho, hn, hn2, hc, q⟩
  have hlt := orc_lt ho
  unfold t_smooth
  try dsimp only
  rw [dSeq]
  simp only [dAsg, dBin, dOp, dCall, dCons, dNil, dVar, start0, List.map_cons, List.map_nil, List.length_cons, List.length_nil, List.replicate, List.cons_append, List.nil_append, List.getElem?_cons_zero, List.getElem?_cons_succ, gLen, lk, List.length_map]
  have z : μ = M μ l c := (M_id ho).symm
  have go : ∀ Q : D → Mu → Prop, (∀ d : Int, 0 ≤ d → d < ns.length → Q (.int d) (M μ l (c - 1))) → S_draw [.ref l, .int ns.length] μ Q (fun x μ1 => (dFn μ Q E).ex x [] μ1) := fun Q h => by
    have := draw_M (μ := μ) (E := fun x μ1 => (dFn μ Q E).ex x [] μ1) (Q := Q) hlt (c := c) (by omega) (by omega) (show (ns.length : Int).natAbs < 2 ^ 60 by omega) h
    rw [← z] at this
    exact this
  refine draw_go ho (by omega) (by omega) (Nat.lt_of_lt_of_le (PySem.Flt.log2_lt_of (k := 60) (by decide) (by omega)) (by decide)) fun j j0 j1 => ?_
  obtain ⟨w, hw, ew⟩ := word_at (W := ns) j0 (by omega)
  simp only [gIx, lk, ew, gLst, List.length_cons, List.length_nil]
  refine ⟨by decide, by decide, ?_⟩
  simp only [dName, List.set_cons_succ, List.set_cons_zero]
  show t_smooth_1 _ [_, _, some (gridD [[w]]), _, _, _, _, _, _] (M μ l (c - 1))
  unfold t_smooth_1
  rw [dSeq]
  simp only [dFor, dRange1, dOp, dCons, dNil, dVar, dC, List.getElem?_cons_zero]
  refine draw_M hlt (by omega) (by decide) (by decide) fun t t0 t1 => ?_
  refine ⟨by omega, ?_⟩
  refine loop_inv (src := none) (fun i Γ μ' => ∃ c' g a3 a4 a5 a6, c ≤ c' + 2 + 3 * i ∧ i ≤ 7 ∧ SmG ns (i + 1) g ∧ Γ = [some (.ref l), some (.lst (ns.map .str)), some (gridD g), a3, a4, a5, a6, none, none] ∧ μ' = M μ l c')
    ⟨c - 1 - 1, [[w]], none, none, none, none, by omega, by omega, ⟨⟨by simp, by simp, by simp [wid], by simp [wid], by simp [wid], by simpa using hw⟩, fm_leaf w⟩, rfl, rfl⟩ ?_ ?_
  · rintro i d Γ μ' hd ⟨c', g, a3, a4, a5, a6, b1, b2, hg, rfl, rfl⟩
    obtain ⟨hi, rfl⟩ := irng_get hd
    refine ⟨trivial, fun Kn kn => ?_⟩
    have hi : i ≤ 6 := by omega
    exact smooth_step (De := { dFn μ Q E with ct := Kn, bk := _ }) hlt hn hn2 hi hg (by omega) fun c2 a4 a5 a6 g' h1 h2 => kn _ _ ⟨c2, g', _, a4, a5, a6, by omega, by omega, h2, rfl, rfl⟩
  · rintro Γ μ' ⟨c', g, a3, a4, a5, a6, b1, b2, hg, rfl, rfl⟩
    rw [irng_len] at b1 b2 hg
    refine ⟨trivial, ?_⟩
    unfold t_smooth_2
    simp only [dRet, dOp, dCons, dNil, dVar, List.getElem?_cons_zero, List.getElem?_cons_succ]
    have h8 : SmG ns 8 g := ⟨hg.b.mono (by omega), hg.f⟩
    refine ⟨l, c', gridD g, g, ns, 8, rfl, M_get hlt, GSee.data, h8.b, by omega, by omega, fun c2 g' h1 h2 => ?_⟩
    rw [show M (M μ l c') l c2 = M μ l c2 from M_set]
    exact FnEnd.pure0 M_upd (grid_pu1 _) (q c2 g g' (by omega) h8 h2)
end DV
namespace DV
open PySem PySem.Spec PyProof.Rows L2
/-! drawn trees, and the tables of trees -/
def treeB : Nat → Nat
  | 0 => 0
  | n + 1 => 9 + 8 * treeB n
def S_any_tree (nn : Nat) : DSp := fun ds μ Q _ => ∃ l c d ns r, ds = [.ref l, d, sideD r] ∧ μ[l]? = some (.orc (c, true)) ∧ lk μ d = .lst (ns.map .str) ∧ 1 ≤ ns.length ∧ ns.length ≤ nn ∧ ns.length ≤ 8 ∧ treeB nn ≤ c ∧ ∀ c' t, c ≤ c' + treeB nn → TreeOf nn ns t → Q t (M μ l c')
theorem any_tree_zero : ∀ ds μ Q E, ¬ S_any_tree 0 ds μ Q E := by
  rintro ds μ Q E ⟨l, c, d, ns, r, _, _, _, h1, h2, _⟩
  omega
def t_any_tree_5 (nn : Nat) : DTS := dRet (dCall gTup (dCons (dVar 2) (dCons (dComp true [8] (dIter (dVar 4)) (cName 8) (dYes) (dOp (S_any_tree nn) (dCons (dVar 0) (dCons (dVar 8) (dCons (dVar 7) (dNil)))))) (dNil))))
def t_any_tree_4 (nn : Nat) : DTS := dSeq (dAsg (dBin gDGet (dDict true [(dC (.str "rows"), dC (.str "columns")), (dC (.str "columns"), dC (.str "rows"))]) (dVar 2)) (dName 7)) (t_any_tree_5 nn)
def t_any_tree_3 (nn : Nat) : DTS := dSeq (dFor (dRange1 (dCall gLen (dCons (dVar 1) dNil))) (dName 5) (dSeq (dAsg (dVar 5) (dName 6)) (dSeq (dIf (dTest (dBin (gI fun i j => .bl (decide (j ≤ i))) (dVar 5) (dVar 3))) (dAsg (dOp S_draw (dCons (dVar 0) (dCons (dVar 3) (dNil)))) (dName 6)) (dNext)) (dDrop (dCellM cAppend (dBin gIx (dVar 4) (dVar 6)) (dCons (dBin gIx (dVar 1) (dVar 5)) dNil)))))) (t_any_tree_4 nn)
def t_any_tree_2 (nn : Nat) : DTS := dSeq (dAsg (dComp false [5] (dRange1 (dVar 3)) (cName 5) (dYes) (dCall gLstM (dNil))) (dName 4)) (t_any_tree_3 nn)
def t_any_tree_1 (nn : Nat) : DTS := dSeq (dAsg (dBin gAdd (dC (.int 2)) (dOp S_draw (dCons (dVar 0) (dCons (dBin (gI fun i j => .int (i - j)) (dCall gLen (dCons (dVar 1) dNil)) (dC (.int 1))) (dNil))))) (dName 3)) (t_any_tree_2 nn)
def t_any_tree (nn : Nat) : DTS := dSeq (dIf (dTest (dBin gEq (dCall gLen (dCons (dVar 1) dNil)) (dC (.int 1)))) (dRet (dBin gIx (dVar 1) (dC (.int 0)))) (dNext)) (t_any_tree_1 nn)
theorem tree_pu : ∀ {n : Nat} {ns : List Str} {d : D}, TreeOf n ns d → d.pu = true
  | 0, _, _, h => h.elim
  | n + 1, ns, d, h => by
    rcases h with ⟨s, rfl, rfl⟩ | ⟨r, nss, ps, rfl, h1, h2, _, hp, h3⟩
    · rfl
    · show D.puL [sideD r, .lst ps] = true
      rw [puL_iff]
      intro x hx
      rcases List.mem_cons.mp hx with rfl | hx
      · rfl
      · rw [List.mem_singleton.mp hx]
        show D.puL ps = true
        rw [puL_iff]
        intro p hp2
        obtain ⟨i, hi, rfl⟩ := List.getElem_of_mem hp2
        exact tree_pu (h3 i (nss[i]'(by omega)) ps[i] (List.getElem?_eq_getElem _) (List.getElem?_eq_getElem hi))
section
variable {μ r : Mu} {l c i : Nat} {gs : List (List Str)} {x : Cell}
theorem mgR {s : List Str} (h : gs[i]? = some s) : (M μ l c ++ (gs.map rowC ++ r))[μ.length + i]? = some (rowC s) := by
  have hi := (List.getElem?_eq_some_iff.mp h).1
  rw [List.getElem?_append_right (by rw [M_len]; omega), M_len, show μ.length + i - μ.length = i from by omega, List.getElem?_append_left (by simpa using hi), List.getElem?_map, h]; rfl
theorem msR {s : List Str} (hi : i < gs.length) : (M μ l c ++ (gs.map rowC ++ r)).set (μ.length + i) (rowC s) = M μ l c ++ ((gs.set i s).map rowC ++ r) := by
  rw [List.set_append_right _ _ (by rw [M_len]; omega), M_len, show μ.length + i - μ.length = i from by omega, List.set_append_left _ _ (by simpa using hi), List.map_set]
theorem mgE : (M μ l c ++ (gs.map rowC ++ x :: r))[μ.length + gs.length]? = some x := by
  rw [List.getElem?_append_right (by rw [M_len]; omega), M_len, List.getElem?_append_right (by simp)]
  simp
end
def refsL (m k : Nat) : List D := (List.range k).map fun i => D.ref (m + i)
theorem refsL_at {m k i : Nat} (h : i < k) : (refsL m k)[i]? = some (.ref (m + i)) := by
  unfold refsL; rw [List.getElem?_map, List.getElem?_range h]; rfl
theorem flat_set {α : Type} {gs : List (List α)} {i : Nat} {x : α} (hi : i < gs.length) : (gs.set i (gs[i] ++ [x])).flatten.Perm (gs.flatten ++ [x]) := by
  have e1 : gs = gs.take i ++ gs[i] :: gs.drop (i + 1) := by
    rw [List.getElem_cons_drop, List.take_append_drop]
  have e2 : gs.set i (gs[i] ++ [x]) = gs.take i ++ (gs[i] ++ [x]) :: gs.drop (i + 1) := by
    rw [List.set_eq_take_append_cons_drop, if_pos hi]
  rw [e2]
  conv => rhs; rw [e1]
  simp only [List.flatten_append, List.flatten_cons, List.append_assoc]
  exact (List.Perm.append_left _ (List.Perm.append_left _ List.perm_append_comm))
theorem sum_two {gs : List (List Str)} {i : Nat} (h2 : 2 ≤ gs.length) (hn : ∀ s ∈ gs, 1 ≤ s.length) (hi : i < gs.length) : gs[i].length + 1 ≤ gs.flatten.length := by
  have aux : ∀ (gs : List (List Str)), (∀ s ∈ gs, 1 ≤ s.length) → gs.length ≤ gs.flatten.length := fun gs => by
    induction gs with
    | nil => intro _; simp
    | cons s gs ih =>
      intro h
      have := ih fun t ht => h t (List.mem_cons_of_mem _ ht)
      have := h s List.mem_cons_self
      simp only [List.flatten_cons, List.length_append, List.length_cons]
      omega
  have e1 : gs = gs.take i ++ gs[i] :: gs.drop (i + 1) := by
    rw [List.getElem_cons_drop, List.take_append_drop]
  have a1 := aux (gs.take i) fun s hs => hn s (List.mem_of_mem_take hs)
  have a2 := aux (gs.drop (i + 1)) fun s hs => hn s (List.mem_of_mem_drop hs)
  conv => rhs; rw [e1]
  simp only [List.flatten_append, List.flatten_cons, List.length_append]
  rw [List.length_take] at a1
  rw [List.length_drop] at a2
  omega
theorem rd_any_tree (nn : Nat) {n1 n2 n3 n4 n5 n6 n7 n8 n9 : Str} : ∀ ds μ Q E, S_any_tree (nn + 1) ds μ Q E → t_any_tree nn (dFn μ Q E) (start0 [n1, n2, n3, n4, n5, n6, n7, n8, n9] ds) μ := by
  rintro _ μ Q E ⟨l, c, d, ns, r, rfl, ho, hd, hn, hn2, hn8, hc, q⟩
  have hlt := orc_lt ho
  have hdM : ∀ c' ext, lk (M μ l c' ++ ext) d = .lst (ns.map .str) := fun c' ext => by rw [lk_M hlt ho ext (.inl hd), hd]
  have hdM0 : ∀ c', lk (M μ l c') d = .lst (ns.map .str) := fun c' => by have := hdM c' []; rwa [List.append_nil] at this
  have hB : treeB (nn + 1) = 9 + 8 * treeB nn := rfl
  unfold t_any_tree
  rw [dSeq]
  simp only [dIf, dTest, dBin, dCall, dCons, dNil, dVar, dC, start0, List.map_cons, List.map_nil, List.length_cons, List.length_nil, List.replicate, List.cons_append, List.nil_append, List.getElem?_cons_zero, List.getElem?_cons_succ, gLen, hd, List.length_map, gEq, deq_int]
  refine ⟨deqOk_int _ _ _, ?_⟩
  by_cases h1 : (ns.length : Int) = 1
  · rw [decide_eq_true h1, cond_true]
    obtain ⟨s, rfl⟩ : ∃ s, ns = [s] := by
      match ns, h1 with
      | [s], _ => exact ⟨s, rfl⟩
      | [], h => simp at h
      | _ :: _ :: _, h => simp at h; omega
    simp only [dRet, dBin, dVar, dC, List.getElem?_cons_zero, List.getElem?_cons_succ, gIx, hd, List.map_cons, List.map_nil, atI_zero]
    have := q c (.str s) (by omega) (.inl ⟨s, rfl, rfl⟩)
    rw [M_id ho] at this
    exact FnEnd.pure0 (Upd.refl _) rfl this
  rw [decide_eq_false h1, cond_false]
  rw [dNext]
  try dsimp only
  have hn3 : 2 ≤ ns.length := by omega
  unfold t_any_tree_1
  rw [dSeq]
  simp only [dAsg, dBin, dOp, dCall, dCons, dNil, dVar, dC, List.getElem?_cons_zero, List.getElem?_cons_succ, gLen, hd, List.length_map, gI]
  refine draw_go ho (by omega) (by omega) (Nat.lt_of_lt_of_le (PySem.Flt.log2_lt_of (k := 60) (by decide) (by omega)) (by decide)) fun j j0 j1 => ?_
  simp only [gAdd, lk, dName, List.set_cons_succ, List.set_cons_zero]
  obtain ⟨k, hk, hk2, hkn⟩ : ∃ k : Nat, (2 : Int) + j = (k : Int) ∧ 2 ≤ k ∧ k ≤ ns.length := ⟨(2 + j).toNat, by omega, by omega, by omega⟩
  rw [hk]
  show t_any_tree_2 nn _ _ (M μ l (c - 1))
  unfold t_any_tree_2
  rw [dSeq]
  simp only [dAsg, dComp, dRange1, dVar, List.getElem?_cons_zero, List.getElem?_cons_succ]
  refine ⟨by omega, ?_⟩
  simp only [wipeG, List.set_cons_succ, List.set_cons_zero, Int.toNat_natCast]
  refine comp_cells (List.replicate k (Cell.lst [])) (fun _ => trivial) (by rw [irng_len, List.length_replicate]) (by rw [irng_len, sizeLine_eq]; omega) ?_ ?_
  · rintro i d' cl μ' hd' hcl rfl K1 K2 k1
    obtain ⟨hi, rfl⟩ := irng_get hd'
    rw [List.getElem?_replicate, if_pos hi] at hcl
    cases hcl
    simp only [cName, dYes, cond_true, dCall, dNil, gLstM, List.length_nil]
    exact ⟨by rw [sizeLine_eq]; decide, k1⟩
  rw [List.length_replicate, dFin]
  simp only [dName, List.set_cons_succ, List.set_cons_zero]
  have lay : M μ l (c - 1) ++ List.replicate k (Cell.lst []) ++ [Cell.lst ((List.range k).map fun i => D.ref ((M μ l (c - 1)).length + i))] = M μ l (c - 1) ++ ((List.replicate k ([] : List Str)).map rowC ++ [.lst (refsL μ.length k)]) := by
    rw [List.append_assoc, List.map_replicate, M_len]; rfl
  rw [lay, show (M μ l (c - 1) ++ List.replicate k (Cell.lst [])).length = μ.length + k from by rw [List.length_append, M_len, List.length_replicate]]
  unfold t_any_tree_3
  rw [dSeq]
  simp only [dFor, dRange1, dCall, dCons, dNil, dVar, List.getElem?_cons_zero, List.getElem?_cons_succ, gLen, hdM, List.length_map]
  refine ⟨by omega, ?_⟩
  refine loop_inv (src := none) (fun i Γ μ' => ∃ c' gs a5 a6, c ≤ c' + 1 + i ∧ i ≤ ns.length ∧ gs.length = k ∧ gs.flatten.Perm (ns.take i) ∧ (∀ m, m < i → m < k → 1 ≤ (gs.getD m []).length) ∧
      Γ = [some (.ref l), some d, some (sideD r), some (.int (k : Int)), some (.ref (μ.length + k)), a5, a6, none, none] ∧ μ' = M μ l c' ++ (gs.map rowC ++ [.lst (refsL μ.length k)]))
    ⟨c - 1, List.replicate k [], none, none, by omega, by omega, by simp, by rw [List.take_zero, show (List.replicate k ([] : List Str)).flatten = [] from by simp], fun m h => by omega, rfl, rfl⟩ ?_ ?_
  · rintro i d' Γ μ' hd' ⟨c', gs, a5, a6, b1, b2, hgl, hp, hne, rfl, rfl⟩
    obtain ⟨hi, rfl⟩ := irng_get hd'
    have hi : i < ns.length := by simpa using hi
    refine ⟨trivial, fun Kn kn => ?_⟩
    have ein : atI (ns.map D.str) ((0 : Int) + (i : Int)) = some (.str ns[i]) := by rw [Int.zero_add]; exact atI_ix (by rw [List.getElem?_map, List.getElem?_eq_getElem hi]; rfl)
    have body : ∀ (sp : Nat) (c2 : Nat), sp < k → c ≤ c2 + 1 + (i + 1) → (i < k → sp = i) →
        dDrop (dCellM cAppend (dBin gIx (dVar 4) (dVar 6)) (dCons (dBin gIx (dVar 1) (dVar 5)) dNil)) { dFn μ Q E with nx := Kn, ct := Kn, bk := fun Γ μ' => t_any_tree_4 nn (dFn μ Q E) Γ μ' } [some (.ref l), some d, some (sideD r), some (.int (k : Int)), some (.ref (μ.length + k)), some (.int (0 + (i : Int))), some (.int (sp : Int)), none, none] (M μ l c2 ++ (gs.map rowC ++ [.lst (refsL μ.length k)])) := by
      intro sp c2 hsp hc2 hki
      have esp : atI (refsL μ.length k) (sp : Int) = some (.ref (μ.length + sp)) := atI_ix (refsL_at hsp)
      have eg : (M μ l c2 ++ (gs.map rowC ++ [Cell.lst (refsL μ.length k)]))[μ.length + k]? = some (.lst (refsL μ.length k)) := by rw [← hgl]; exact mgE
      have hs : sp < gs.length := by omega
      have es : (M μ l c2 ++ (gs.map rowC ++ [Cell.lst (refsL μ.length k)]))[μ.length + sp]? = some (.lst (gs[sp].map .str)) := mgR (List.getElem?_eq_getElem hs)
      have hpl := hp.length_eq
      rw [List.length_take] at hpl
      have hsl : gs[sp].length ≤ 8 := by
        have : gs[sp].length ≤ gs.flatten.length := (List.sublist_flatten_of_mem (List.getElem_mem hs)).length_le
        omega
      simp only [dDrop, dCellM, dBin, dVar, dCons, dNil, List.getElem?_cons_zero, List.getElem?_cons_succ, gIx, lk_cell eg, esp, hdM, ein, es]
      rw [append_at (by rw [List.length_map]; omega)]
      dsimp only
      have e3 : Cell.lst (gs[sp].map D.str ++ [D.str ns[i]]) = rowC (gs[sp] ++ [ns[i]]) := by simp [rowC]
      rw [e3, msR hs]
      refine kn _ _ ⟨c2, gs.set sp (gs[sp] ++ [ns[i]]), _, _, by omega, by omega, by simp [hgl], ?_, fun m hm hmk => ?_, rfl, rfl⟩
      · refine (flat_set hs).trans ?_
        rw [List.take_succ, List.getElem?_eq_getElem hi]
        exact hp.append_right _
      · rw [List.getD_eq_getElem?_getD, List.getElem?_set]
        by_cases e : sp = m
        · rw [if_pos e, if_pos hs]; simp
        · rw [if_neg e, ← List.getD_eq_getElem?_getD]
          have hmi : m ≠ i := fun z => e (by rw [z]; exact hki (by omega))
          exact hne m (by omega) hmk
    simp only [dName, List.set_cons_succ, List.set_cons_zero]
    rw [dSeq]
    simp only [dAsg, dVar, dName, List.getElem?_cons_zero, List.getElem?_cons_succ, List.set_cons_succ, List.set_cons_zero]
    rw [dSeq]
    simp only [dIf, dTest, dBin, dVar, List.getElem?_cons_zero, List.getElem?_cons_succ, gI]
    by_cases hik : (k : Int) ≤ 0 + (i : Int)
    · rw [decide_eq_true hik, cond_true]
      simp only [dAsg, dOp, dCons, dNil, dVar, dName, List.getElem?_cons_zero, List.getElem?_cons_succ, List.set_cons_succ, List.set_cons_zero]
      refine draw_E hlt (by omega) (by omega) (by omega) fun sp s0 s1 => ?_
      obtain ⟨sp, rfl⟩ : ∃ sp' : Nat, sp = (sp' : Int) := ⟨sp.toNat, by omega⟩
      exact body sp (c' - 1) (by omega) (by omega) (fun z => by omega)
    · rw [decide_eq_false hik, cond_false]
      rw [dNext]
      have := body i c' (by omega) (by omega) (fun _ => rfl)
      rw [show (0 : Int) + (i : Int) = (i : Int) from Int.zero_add _] at this ⊢
      exact this
  · rintro Γ μ' ⟨c', gs, a5, a6, b1, b2, hgl, hp, hne, rfl, rfl⟩
    rw [irng_len] at b1 b2 hp hne
    rw [show ((ns.length : Int)).toNat = ns.length from Int.toNat_natCast _] at b1 b2 hp hne
    rw [List.take_length] at hp
    have hne2 : ∀ s ∈ gs, 1 ≤ s.length := fun s hs => by
      obtain ⟨m, hm, rfl⟩ := List.getElem_of_mem hs
      have := hne m (by omega) (by omega)
      rwa [List.getD_eq_getElem?_getD, List.getElem?_eq_getElem hm] at this
    refine ⟨trivial, ?_⟩
    unfold t_any_tree_4
    try dsimp only
    rw [dSeq]
    have eside : ∀ (r : Bool) (K : D → Mu → Prop) (E2 : Exn → Mu → Prop) (Γ : Gam) (μ : Mu), Γ[2]? = some (some (sideD r)) → K (sideD !r) μ → dBin gDGet (dDict true [(dC (.str "rows"), dC (.str "columns")), (dC (.str "columns"), dC (.str "rows"))]) (dVar 2) Γ μ K E2 := by
      intro r K E2 Γ μ h k
      unfold dBin dDict dPairs
      simp only [dC, dPairs, dVar, h]
      cases r
      · refine ⟨by decide, ?_⟩
        exact k
      · refine ⟨by decide, ?_⟩
        exact k
    simp only [dAsg]
    refine eside r _ _ _ _ rfl ?_
    simp only [dName, List.set_cons_succ, List.set_cons_zero]
    unfold t_any_tree_5
    have eg : (M μ l c' ++ (gs.map rowC ++ [Cell.lst (refsL μ.length k)]))[μ.length + k]? = some (.lst (refsL μ.length k)) := by rw [← hgl]; exact mgE
    simp only [dRet, dCall, dCons, dNil, dVar, dComp, dIter, List.getElem?_cons_zero, List.getElem?_cons_succ, eg, wipeG, List.set_cons_succ, List.set_cons_zero]
    have hrl : (refsL μ.length k).length = k := by simp [refsL]
    have egc : ∀ c2, (M μ l c2 ++ (gs.map rowC ++ [Cell.lst (refsL μ.length k)]))[μ.length + k]? = some (.lst (refsL μ.length k)) := fun c2 => by rw [← hgl]; exact mgE
    refine comp_inv (fun i acc μ' => ∃ c2, c' ≤ c2 + i * treeB nn ∧ i ≤ k ∧ acc.length = i ∧ (∀ (m : Nat) s t, gs[m]? = some s → acc[m]? = some t → TreeOf nn s t) ∧ μ' = M μ l c2 ++ (gs.map rowC ++ [.lst (refsL μ.length k)]))
      ⟨c', by omega, by omega, rfl, fun m s t _ h => (by simp at h), rfl⟩ (by rw [hrl, sizeLine_eq]; omega) ?_ ?_
    · rintro i d' acc μ' hd' ⟨c2, d1, d2, d3, d4, rfl⟩
      have hik : i < k := by have := (List.getElem?_eq_some_iff.mp hd').1; rwa [hrl] at this
      rw [refsL_at hik] at hd'
      cases hd'
      refine ⟨egc c2, fun K1 K2 k1 _ => ?_⟩
      simp only [cName, dYes, cond_true, dOp, dCons, dNil, dVar, List.set_cons_succ, List.set_cons_zero, List.getElem?_cons_zero, List.getElem?_cons_succ]
      have hs : i < gs.length := by omega
      have hbb : i * treeB nn + treeB nn ≤ 8 * treeB nn := by
        have : (i + 1) * treeB nn ≤ 8 * treeB nn := Nat.mul_le_mul_right _ (by omega)
        rwa [Nat.add_mul, Nat.one_mul] at this
      have h2 := sum_two (by omega) hne2 hs
      rw [hp.length_eq] at h2
      have ho2 : (M μ l c2 ++ (gs.map rowC ++ [Cell.lst (refsL μ.length k)]))[l]? = some (.orc (c2, true)) := get_app (M_get hlt)
      refine ⟨l, c2, _, gs[i], !r, rfl, ho2, lk_cell (mgR (List.getElem?_eq_getElem hs)), hne2 _ (List.getElem_mem hs), by omega, by omega, by omega, fun c3 t h3 h4 => ?_⟩
      rw [M_app (by rw [M_len]; exact hlt), show M (M μ l c2) l c3 = M μ l c3 from M_set]
      refine k1 _ _ ⟨c3, by rw [Nat.add_mul]; omega, by omega, by simp [d3], fun m s t' hm ht => ?_, rfl⟩
      rcases get_app1_lt ht with ⟨_, ht⟩ | ⟨e, rfl⟩
      · exact d4 m s t' hm ht
      · rw [d3] at e
        subst e
        rw [List.getElem?_eq_getElem hs] at hm
        cases hm
        exact h4
    · rintro acc μ' ⟨c2, d1, d2, d3, d4, rfl⟩
      rw [hrl] at d1 d3
      refine ⟨egc c2, ?_⟩
      rw [dFin]
      simp only [gTup, List.length_cons, List.length_nil]
      refine ⟨by decide, ?_⟩
      have T : TreeOf (nn + 1) ns (.tup [sideD r, .lst acc]) := .inr ⟨r, gs, acc, rfl, by omega, by omega, by omega, hp, d4⟩
      have hbb : k * treeB nn ≤ 8 * treeB nn := Nat.mul_le_mul_right _ (by omega)
      exact FnEnd.pure M_upd (tree_pu T) (q c2 _ (by omega) T)
end DV
namespace DV
open PySem PySem.Spec PyProof.Rows L2
/-! the table of a tree -/
def S_tree_rows (nn : Nat) : DSp := fun ds μ Q _ => ∃ d ns, ds = [d] ∧ TreeOf nn ns d ∧ ns.length ≤ 6 ∧ (Q (gridD (gridT nn d)) μ ∨ ∀ d' ext, GCell (fun l => μ.length ≤ l) (μ ++ ext) d' (gridT nn d) → Q d' (μ ++ ext))
theorem tree_rows_zero : ∀ ds μ Q E, ¬ S_tree_rows 0 ds μ Q E := by
  rintro ds μ Q E ⟨d, ns, _, h, _⟩
  exact h
def t_tree_rows_6 (nn : Nat) : DTS := dRet (dVar 2)
def t_tree_rows_5 (nn : Nat) : DTS := dSeq (dIf (dTest (dBin gEq (dBin gIx (dVar 0) (dC (.int 0))) (dC (.str "columns")))) (dRet (dOp S_flipped (dCons (dVar 2) (dNil)))) (dNext)) (t_tree_rows_6 nn)
def t_tree_rows_4 (nn : Nat) : DTS := dSeq (dFor (dRange1 (dCall gLen (dCons (dVar 1) dNil))) (dName 3) (dFor (dIter (dBin gIx (dVar 1) (dVar 3))) (dName 4) (dDrop (dCellM cAppend (dVar 2) (dCons (dComp false [7] (dIter (dOp S_ways (dCons (dComp true [6] (dIter (dVar 1)) (cName 6) (dYes) (dCall gLen (dCons (dBin gIx (dVar 6) (dC (.int 0))) dNil))) (dNil)))) (cName 7) (dYes) (dBin gIx (dVar 4) (dBin gIx (dVar 7) (dVar 3)))) dNil))))) (t_tree_rows_5 nn)
def t_tree_rows_3 (nn : Nat) : DTS := dSeq (dAsg (dCall gLstM (dNil)) (dName 2)) (t_tree_rows_4 nn)
def t_tree_rows_2 (nn : Nat) : DTS := dSeq (dIf (dTest (dBin gEq (dBin gIx (dVar 0) (dC (.int 0))) (dC (.str "columns")))) (dAsg (dComp true [6] (dIter (dVar 1)) (cName 6) (dYes) (dOp S_flipped (dCons (dVar 6) (dNil)))) (dName 1)) (dNext)) (t_tree_rows_3 nn)
def t_tree_rows_1 (nn : Nat) : DTS := dSeq (dAsg (dComp true [5] (dIter (dBin gIx (dVar 0) (dC (.int 1)))) (cName 5) (dYes) (dOp (S_tree_rows nn) (dCons (dVar 5) (dNil)))) (dName 1)) (t_tree_rows_2 nn)
def t_tree_rows (nn : Nat) : DTS := dSeq (dIf (dTest (dIsi .str (dVar 0))) (dRet (dCall gLstM (dCons (dCall gLstM (dCons (dVar 0) (dNil))) (dNil)))) (dNext)) (t_tree_rows_1 nn)
def lineOf (sz : List Nat) (k : Nat) (r : List Str) : List Str := (ways sz).map fun w => r.getD (w.getD k 0) Str.empty
def joinTo (gs : List (List (List Str))) (k : Nat) : List (List Str) := (List.range k).flatMap fun k => (gs.getD k []).map (lineOf (gs.map wid) k)
theorem joinTo_all (gs : List (List (List Str))) : joinTo gs gs.length = joinG gs := rfl
theorem joinTo_succ (gs : List (List (List Str))) (k : Nat) : joinTo gs (k + 1) = joinTo gs k ++ (gs.getD k []).map (lineOf (gs.map wid) k) := by
  unfold joinTo; rw [List.range_succ, List.flatMap_append]; simp
theorem joinTo_le (gs : List (List (List Str))) : ∀ {k : Nat}, k ≤ gs.length → (joinTo gs k).length ≤ (joinG gs).length := fun {k} h => by
  have : ∀ d, (joinTo gs k).length ≤ (joinTo gs (k + d)).length := fun d => by
    induction d with
    | zero => exact Nat.le_refl _
    | succ d ih =>
      rw [← Nat.add_assoc, joinTo_succ, List.length_append]
      omega
  have h2 := this (gs.length - k)
  rwa [show k + (gs.length - k) = gs.length from by omega, joinTo_all] at h2
theorem sideD_eq (μ : Mu) (r : Bool) : deqOk μ (sideD r) (.str "columns") ∧ deq μ (sideD r) (.str "columns") = !r := by
  have a1 : asc (Str.ofString "columns") := by intro c hc; revert c; decide +kernel
  have a2 : asc (Str.ofString "rows") := by intro c hc; revert c; decide +kernel
  cases r
  · have := deq_str (μ := μ) a1 a1
    refine ⟨this.1, ?_⟩
    show deq μ (.str "columns") _ = true
    rw [this.2]; decide +kernel
  · have := deq_str (μ := μ) a2 a1
    refine ⟨this.1, ?_⟩
    show deq μ (.str "rows") _ = false
    rw [this.2]; decide +kernel
section
variable {μ : Mu} {gs : List (List (List Str))} {De : DEnds} {td : D} {nn : Nat}
/-- the loop that joins the parts -/
theorem join_loop {a3 a4 : Option D} (hl : gs.length ≤ 100) (hn : 1 ≤ gs.length) (hs : prodN (gs.map wid) ≤ 1000) (hj : (joinG gs).length ≤ 1000) (hw : ∀ g ∈ gs, ∃ W, GB W 1000 g)
    (kn : ∀ a3 a4 acc ext, RowsAt (fun l => μ.length < l) (μ ++ .lst acc :: ext) acc (joinG gs) → t_tree_rows_5 nn De [some td, some (.lst (gs.map gridD)), some (.ref μ.length), a3, a4, none, none, none] (μ ++ .lst acc :: ext)) :
    t_tree_rows_4 nn De [some td, some (.lst (gs.map gridD)), some (.ref μ.length), a3, a4, none, none, none] (μ ++ [.lst []]) := by
  have hw1 : ∀ n ∈ gs.map wid, 1 ≤ n := fun n hn => by
    obtain ⟨g, hg, rfl⟩ := List.mem_map.mp hn
    obtain ⟨W, h⟩ := hw g hg
    exact h.w1
  unfold t_tree_rows_4
  rw [dSeq]
  simp only [dFor, dRange1, dCall, dCons, dNil, dVar, List.getElem?_cons_zero, List.getElem?_cons_succ, gLen, lk, List.length_map]
  refine ⟨by omega, ?_⟩
  refine loop_inv (src := none) (fun k Γ μ' => ∃ acc ext a3 a4, k ≤ gs.length ∧ RowsAt (fun l => μ.length < l) (μ ++ .lst acc :: ext) acc (joinTo gs k) ∧ Γ = [some td, some (.lst (gs.map gridD)), some (.ref μ.length), a3, a4, none, none, none] ∧ μ' = μ ++ .lst acc :: ext) ⟨[], [], a3, a4, by omega, .nil, rfl, rfl⟩ ?_ ?_
  · rintro k d Γ μ' hd ⟨acc, ext, a3, a4, b1, hr, rfl, rfl⟩
    obtain ⟨hk, rfl⟩ := irng_get hd
    have hk : k < gs.length := by simpa using hk
    refine ⟨trivial, fun Kn kn => ?_⟩
    obtain ⟨W, hg⟩ := hw gs[k] (List.getElem_mem hk)
    have e1 : atI (gs.map gridD) ((0 : Int) + (k : Int)) = some (gridD gs[k]) := by rw [Int.zero_add]; exact atI_ix (by rw [List.getElem?_map, List.getElem?_eq_getElem hk]; rfl)
    have hle := joinTo_le gs (k := k + 1) hk
    have hsucc := joinTo_succ gs k
    have egd : gs.getD k [] = gs[k] := by rw [List.getD_eq_getElem?_getD, List.getElem?_eq_getElem hk]; rfl
    rw [egd] at hsucc
    simp only [dName, List.set_cons_succ, List.set_cons_zero, dFor, dIter, dBin, dVar, List.getElem?_cons_zero, List.getElem?_cons_succ, gIx, lk, e1]
    show dLoop none (dName 4) _ (gs[k].map rowD) _ _ _
    generalize hgk : gs[k] = g at hg hsucc e1
    have hlen := congrArg List.length hsucc
    rw [List.length_append, List.length_map] at hlen
    have gw2 := hg.w2
    refine loop_inv (src := none) (fun j Γ μ' => ∃ acc ext a4, j ≤ g.length ∧ RowsAt (fun l => μ.length < l) (μ ++ .lst acc :: ext) acc (joinTo gs k ++ (g.take j).map (lineOf (gs.map wid) k)) ∧ Γ = [some td, some (.lst (gs.map gridD)), some (.ref μ.length), some (.int (0 + (k : Int))), a4, none, none, none] ∧ μ' = μ ++ .lst acc :: ext) ⟨acc, ext, a4, by omega, by simpa using hr, rfl, rfl⟩ ?_ ?_
    · rintro j d Γ μ' hd ⟨acc, ext, a4, b2, hr, rfl, rfl⟩
      have hj : j < g.length := by have := (List.getElem?_eq_some_iff.mp hd).1; simpa using this
      rw [List.getElem?_map, List.getElem?_eq_getElem hj] at hd
      cases hd
      have hrow : g[j].length = wid g := hg.eq _ (List.getElem_mem hj)
      have htk : joinTo gs k ++ (g.take (j + 1)).map (lineOf (gs.map wid) k) = (joinTo gs k ++ (g.take j).map (lineOf (gs.map wid) k)) ++ [lineOf (gs.map wid) k g[j]] := by
        rw [List.take_succ, List.getElem?_eq_getElem hj, List.map_append, List.append_assoc]; rfl
      have hal := hr.1
      rw [List.length_append, List.length_map, List.length_take] at hal
      generalize g[j] = row at hrow htk
      refine ⟨trivial, fun Kn kn => ?_⟩
      simp only [dName, List.set_cons_succ, List.set_cons_zero, dDrop, dCellM, dCons, dNil, dVar, List.getElem?_cons_zero, List.getElem?_cons_succ]
      rw [get_a0]
      dsimp only
      unfold dComp
      simp only [dIter, dOp, dCons, dNil]
      try unfold dComp
      simp only [dIter, dVar, List.getElem?_cons_zero, List.getElem?_cons_succ, wipeG, List.set_cons_succ, List.set_cons_zero]
      refine comp_list ((gs.map wid).map fun n : Nat => D.int (n : Int)) trivial (by simp) (by rw [List.length_map, sizeLine_eq]; omega) ?_ ?_
      · intro i x y hx hy L1 L2 l1
        rw [List.getElem?_map] at hx
        rw [List.map_map, List.getElem?_map] at hy
        cases hi : gs[i]? with
        | none => rw [hi] at hx; cases hx
        | some g1 =>
          rw [hi] at hx hy
          cases hx; cases hy
          obtain ⟨W1, hg1⟩ := hw g1 (List.mem_of_getElem? hi)
          obtain ⟨r0, hr0, hl0, e0⟩ := gridA_ix0 hg1
          simp only [cName, dYes, cond_true, dCall, dCons, dNil, dBin, dVar, dC, List.set_cons_succ, List.set_cons_zero, List.getElem?_cons_zero, List.getElem?_cons_succ, e0, gLen, lk, List.length_map, hl0]
          exact l1
      rw [dFin]
      refine ⟨gs.map wid, rfl, hw1, hs, by rw [List.length_map]; exact hl, ?_⟩
      simp only
      refine comp_list ((lineOf (gs.map wid) k row).map .str) trivial (by unfold lineOf; simp) (by rw [List.length_map, ways_len, sizeLine_eq]; omega) ?_ ?_
      · intro i x y hx hy L1 L2 l1
        rw [List.getElem?_map] at hx
        unfold lineOf at hy
        rw [List.map_map, List.getElem?_map] at hy
        cases hi : (ways (gs.map wid))[i]? with
        | none => rw [hi] at hx; cases hx
        | some w =>
          rw [hi] at hx hy
          cases hx; cases hy
          obtain ⟨w1, w2⟩ := ways_item _ w (List.mem_of_getElem? hi)
          rw [List.length_map] at w1
          have w3 := w2 k (by simpa using hk)
          have ewd : (gs.map wid).getD k 0 = wid g := by rw [List.getD_eq_getElem?_getD, List.getElem?_map, List.getElem?_eq_getElem hk, hgk]; rfl
          rw [ewd] at w3
          have e5 : atI (w.map fun n : Nat => D.int (n : Int)) ((0 : Int) + (k : Int)) = some (.int ((w.getD k 0 : Nat) : Int)) := by
            rw [Int.zero_add]
            refine atI_ix ?_
            rw [List.getElem?_map, List.getElem?_eq_getElem (by omega), List.getD_eq_getElem?_getD, List.getElem?_eq_getElem (by omega)]; rfl
          have e6 : ∀ q, q < row.length → atI (row.map D.str) (q : Int) = some (.str (row.getD q Str.empty)) := fun q hq => atI_ix (by rw [List.getElem?_map, List.getElem?_eq_getElem hq, List.getD_eq_getElem?_getD, List.getElem?_eq_getElem hq]; rfl)
          simp only [cName, dYes, cond_true, dBin, dVar, List.set_cons_succ, List.set_cons_zero, List.getElem?_cons_zero, List.getElem?_cons_succ, gIx, wayD, lk]
          rw [e5]
          dsimp only
          rw [e6 _ (by omega)]
          exact l1
      rw [dFin]
      have hacc : acc.length ≤ 1000 := by omega
      have ecell : (μ ++ Cell.lst acc :: ext ++ [Cell.lst ((lineOf (gs.map wid) k row).map D.str)])[μ.length]? = some (.lst acc) := by rw [List.append_assoc]; exact get_a0
      rw [ecell]
      dsimp only
      rw [append_at (by omega)]
      dsimp only
      have e7 : (μ ++ Cell.lst acc :: ext ++ [Cell.lst ((lineOf (gs.map wid) k row).map D.str)]).set μ.length (.lst (acc ++ [.ref (μ ++ Cell.lst acc :: ext).length])) = μ ++ .lst (acc ++ [.ref (μ ++ Cell.lst acc :: ext).length]) :: (ext ++ [.lst ((lineOf (gs.map wid) k row).map D.str)]) := by
        rw [List.append_assoc, List.cons_append, set_a0]
      rw [e7]
      refine kn _ _ ⟨_, _, _, by omega, ?_, rfl, rfl⟩
      rw [htk]
      refine (hr.to fun l xs h1 h2 => ⟨h1, ?_⟩).push (by simp) ?_
      · rw [show μ ++ Cell.lst (acc ++ [D.ref (μ ++ Cell.lst acc :: ext).length]) :: (ext ++ [Cell.lst ((lineOf (gs.map wid) k row).map D.str)]) = (μ ++ Cell.lst (acc ++ [D.ref (μ ++ Cell.lst acc :: ext).length]) :: ext) ++ [Cell.lst ((lineOf (gs.map wid) k row).map D.str)] from by simp]
        refine get_app ?_
        rw [← h2, ← set_a0 (x := Cell.lst acc), List.getElem?_set_ne (by omega)]
      · rw [show μ ++ Cell.lst (acc ++ [D.ref (μ ++ Cell.lst acc :: ext).length]) :: (ext ++ [Cell.lst ((lineOf (gs.map wid) k row).map D.str)]) = (μ ++ Cell.lst (acc ++ [D.ref (μ ++ Cell.lst acc :: ext).length]) :: ext) ++ [Cell.lst ((lineOf (gs.map wid) k row).map D.str)] from by simp]
        rw [List.getElem?_append_right (by simp)]
        simp
    · rintro Γ μ' ⟨acc, ext, a4, b2, hr, rfl, rfl⟩
      refine ⟨trivial, ?_⟩
      rw [List.length_map, List.take_length] at hr
      rw [← hsucc] at hr
      exact kn _ _ ⟨_, _, _, _, by omega, hr, rfl, rfl⟩
  · rintro Γ μ' ⟨acc, ext, a3, a4, b1, hr, rfl, rfl⟩
    refine ⟨trivial, ?_⟩
    rw [irng_len, show ((gs.length : Int)).toNat = gs.length from Int.toNat_natCast _, joinTo_all] at hr
    exact kn _ _ _ _ hr
end
theorem joinG_bd {n : Nat} {nss : List (List Str)} {gs : List (List (List Str))} {ns : List Str} (h : GT ns (joinG gs)) (hn : ns.length ≤ 6) : (joinG gs).length ≤ 64 ∧ prodN (gs.map wid) ≤ 64 := by
  have h1 := h.b.h2
  have h2 := h.b.w2
  have h3 : 2 ^ ns.length ≤ 2 ^ 6 := Nat.pow_le_pow_right (by decide) hn
  rw [joinG_wid h.b.h1] at h2
  omega
theorem RowsAt.gc {p q : Nat → Prop} {μ : Mu} {acc : List D} {gs : List (List Str)} {lo : Nat} (h : RowsAt p μ acc gs) (hp : ∀ l, p l → q l) (h1 : q lo) (h2 : μ[lo]? = some (.lst acc)) : GCell q μ (.ref lo) gs :=
  (h.to (q := q) fun l xs a b => ⟨hp l a, b⟩).gcell h1 h2
theorem rd_tree_rows (nn : Nat) {n1 n2 n3 n4 n5 n6 n7 n8 : Str} : ∀ ds μ Q E, S_tree_rows (nn + 1) ds μ Q E → t_tree_rows nn (dFn μ Q E) (start0 [n1, n2, n3, n4, n5, n6, n7, n8] ds) μ := by
  rintro _ μ Q E ⟨d, ns, rfl, ht, hn, q⟩
  have hT := gridT_ok ht
  unfold t_tree_rows
  rw [dSeq]
  simp only [dIf, dTest, dIsi, dVar, start0, List.map_cons, List.map_nil, List.length_cons, List.length_nil, List.replicate, List.cons_append, List.nil_append, List.getElem?_cons_zero]
  rcases ht with ⟨s, rfl, rfl⟩ | ⟨r, nss, ps, rfl, h1, h2, h2b, hp, h3⟩
  · simp only [lk, tyD]
    show cond true _ _
    rw [cond_true]
    simp only [dRet, dCall, dCons, dNil, dVar, List.getElem?_cons_zero, gLstM, List.length_cons, List.length_nil]
    refine ⟨by rw [sizeLine_eq]; decide, by rw [sizeLine_eq]; decide, ?_⟩
    have nw := gcell_new (μ := μ) (g := [[s]]) (p := fun l => μ.length ≤ l) (fun l h => h)
    have nw2 : GCell (fun l => μ.length ≤ l) (μ ++ [.lst [.str s], .lst [.ref μ.length]]) (.ref (μ.length + 1)) [[s]] := by simpa [rowC, List.range_succ] using nw
    show FnEnd μ (.ref (μ ++ [Cell.lst [D.str s]]).length) (μ ++ [Cell.lst [D.str s]] ++ [Cell.lst [D.ref μ.length]]) Q
    rw [List.length_append, List.append_assoc]
    rcases q with q | q
    · exact FnEnd.melt (Upd.refl μ) (gfz nw2.see) q
    · exact FnEnd.here (q _ _ nw2)
  · simp only [lk, tyD]
    show cond false _ _
    rw [cond_false]
    rw [dNext]
    try dsimp only
    unfold t_tree_rows_1
    rw [dSeq]
    have hsub : ∀ i (hi : i < ps.length), ∃ ms, nss[i]? = some ms ∧ TreeOf nn ms ps[i] ∧ ms.length ≤ 6 := fun i hi => by
      refine ⟨nss[i]'(by omega), List.getElem?_eq_getElem _, h3 i _ _ (List.getElem?_eq_getElem _) (List.getElem?_eq_getElem hi), ?_⟩
      have : nss[i].length ≤ nss.flatten.length := (List.sublist_flatten_of_mem (List.getElem_mem (by omega))).length_le
      rw [hp.length_eq] at this
      omega
    have hps : ps.length ≤ 6 := by
      have aux : ∀ (gs : List (List Str)), (∀ s ∈ gs, 1 ≤ s.length) → gs.length ≤ gs.flatten.length := fun gs => by
        induction gs with
        | nil => intro _; simp
        | cons s gs ih =>
          intro h
          have := ih fun t ht => h t (List.mem_cons_of_mem _ ht)
          have := h s List.mem_cons_self
          simp only [List.flatten_cons, List.length_append, List.length_cons]
          omega
      have := aux nss fun s hs => by
        obtain ⟨i, hi, rfl⟩ := List.getElem_of_mem hs
        exact tree_ne (h3 i _ (ps[i]'(by omega)) (List.getElem?_eq_getElem hi) (List.getElem?_eq_getElem (by omega)))
      rw [hp.length_eq] at this
      omega
    have hgT : ∀ g ∈ ps.map (gridT nn), ∃ W, GB W 1000 g := fun g hg => by
      obtain ⟨p, hp2, rfl⟩ := List.mem_map.mp hg
      obtain ⟨i, hi, rfl⟩ := List.getElem_of_mem hp2
      obtain ⟨ms, _, e2, e3⟩ := hsub i hi
      have e4 : 2 ^ ms.length ≤ 2 ^ 6 := Nat.pow_le_pow_right (by decide) e3
      exact ⟨ms, (gridT_ok e2).b.mono (by omega)⟩
    have at0 : atI [sideD r, .lst ps] 0 = some (sideD r) := rfl
    have at1 : atI [sideD r, .lst ps] 1 = some (.lst ps) := rfl
    simp only [dAsg, dComp, dIter, dBin, dVar, dC, List.getElem?_cons_zero, gIx, lk, at1, wipeG, List.set_cons_succ, List.set_cons_zero]
    refine comp_list ((ps.map (gridT nn)).map gridD) trivial (by simp) (by rw [sizeLine_eq]; omega) ?_ ?_
    · intro i x y hx hy L1 L2 l1
      have hi : i < ps.length := (List.getElem?_eq_some_iff.mp hx).1
      rw [List.getElem?_eq_getElem hi] at hx
      cases hx
      rw [List.map_map, List.getElem?_map, List.getElem?_eq_getElem hi] at hy
      cases hy
      obtain ⟨ms, _, e2, e3⟩ := hsub i hi
      simp only [cName, dYes, cond_true, dOp, dCons, dNil, dVar, List.set_cons_succ, List.set_cons_zero, List.getElem?_cons_zero, List.getElem?_cons_succ]
      exact ⟨ps[i], ms, rfl, e2, e3, .inl l1⟩
    rw [dFin]
    simp only [dName, List.set_cons_succ, List.set_cons_zero]
    unfold t_tree_rows_2
    try dsimp only
    rw [dSeq]
    simp only [dIf, dTest, dBin, dVar, dC, List.getElem?_cons_zero, gIx, lk, at0, gEq]
    refine ⟨(sideD_eq _ r).1, ?_⟩
    rw [(sideD_eq _ r).2]
    cases r with
    | true =>
      simp only [Bool.not_true, cond_false]
      rw [dNext]
      try dsimp only
      unfold t_tree_rows_3
      rw [dSeq]
      simp only [dAsg, dCall, dNil, gLstM, List.length_nil]
      refine ⟨by rw [sizeLine_eq]; decide, ?_⟩
      simp only [dName, List.set_cons_succ, List.set_cons_zero]
      have hT : GT ns (joinG (ps.map (gridT nn))) := hT
      obtain ⟨j1, j2⟩ := joinG_bd (n := 0) (nss := nss) hT hn
      refine join_loop (by rw [List.length_map]; omega) (by rw [List.length_map]; omega) (by omega) (by omega) hgT fun a3 a4 acc ext hr => ?_
      unfold t_tree_rows_5
      rw [dSeq]
      simp only [dIf, dTest, dBin, dVar, dC, List.getElem?_cons_zero, gIx, lk, at0, gEq]
      refine ⟨(sideD_eq _ true).1, ?_⟩
      rw [(sideD_eq _ true).2]
      simp only [Bool.not_true, cond_false]
      rw [dNext]
      try dsimp only
      unfold t_tree_rows_6
      simp only [dRet, dVar, List.getElem?_cons_zero, List.getElem?_cons_succ]
      have gc : GCell (fun l => μ.length ≤ l) (μ ++ .lst acc :: ext) (.ref μ.length) (gridT (nn + 1) (.tup [sideD true, .lst ps])) := hr.gc (fun l h => by omega) (Nat.le_refl _) get_a0
      rcases q with q | q
      · exact FnEnd.melt (Upd.refl μ) (gfz gc.see) q
      · exact FnEnd.here (q _ _ gc)
    | false =>
      simp only [Bool.not_false, cond_true, dAsg, dComp, dIter, dVar, List.getElem?_cons_zero, List.getElem?_cons_succ, wipeG, List.set_cons_succ, List.set_cons_zero]
      refine comp_list ((ps.map fun p => flip (gridT nn p)).map gridD) trivial (by simp) (by rw [List.length_map, List.length_map, sizeLine_eq]; omega) ?_ ?_
      · intro i x y hx hy L1 L2 l1
        have hi : i < ps.length := by have := (List.getElem?_eq_some_iff.mp hx).1; simpa using this
        rw [List.map_map, List.getElem?_map, List.getElem?_eq_getElem hi] at hx hy
        cases hx; cases hy
        obtain ⟨W, hg⟩ := hgT _ (List.mem_map.mpr ⟨ps[i], List.getElem_mem hi, rfl⟩)
        simp only [cName, dYes, cond_true, dOp, dCons, dNil, dVar, List.set_cons_succ, List.set_cons_zero, List.getElem?_cons_zero, List.getElem?_cons_succ]
        exact ⟨_, gridT nn ps[i], W, 1000, rfl, GSee.data, hg, by omega, .inl l1⟩
      rw [dFin]
      simp only [dName, List.set_cons_succ, List.set_cons_zero]
      unfold t_tree_rows_3
      try dsimp only
      rw [dSeq]
      simp only [dAsg, dCall, dNil, gLstM, List.length_nil]
      refine ⟨by rw [sizeLine_eq]; decide, ?_⟩
      simp only [dName, List.set_cons_succ, List.set_cons_zero]
      have hT' : GT ns (DV.flip (joinG (ps.map fun p => flip (gridT nn p)))) := hT
      have hJ : GT ns (joinG (ps.map fun p => flip (gridT nn p))) := by
        refine (joinG_ok (by simpa using h1) (by omega) fun i ms g e1 e2 => ?_).perm hp
        rw [List.getElem?_map] at e2
        cases hi : ps[i]? with
        | none => rw [hi] at e2; cases e2
        | some p => rw [hi] at e2; cases e2; exact ⟨tree_ne (h3 i ms p e1 hi), (gridT_ok (h3 i ms p e1 hi)).flip⟩
      obtain ⟨j1, j2⟩ := joinG_bd (n := 0) (nss := nss) hJ hn
      have hgT2 : ∀ g ∈ ps.map fun p => flip (gridT nn p), ∃ W, GB W 1000 g := fun g hg => by
        obtain ⟨p, hp2, rfl⟩ := List.mem_map.mp hg
        obtain ⟨W, hg⟩ := hgT _ (List.mem_map.mpr ⟨p, hp2, rfl⟩)
        exact ⟨W, hg.flip⟩
      refine join_loop (by rw [List.length_map]; omega) (by rw [List.length_map]; omega) (by omega) (by omega) hgT2 fun a3 a4 acc ext hr => ?_
      unfold t_tree_rows_5
      rw [dSeq]
      simp only [dIf, dTest, dBin, dVar, dC, List.getElem?_cons_zero, gIx, lk, at0, gEq]
      refine ⟨(sideD_eq _ false).1, ?_⟩
      rw [(sideD_eq _ false).2]
      simp only [Bool.not_false, cond_true, dRet, dOp, dCons, dNil, dVar, List.getElem?_cons_zero, List.getElem?_cons_succ]
      have gc : GCell (fun _ => True) (μ ++ .lst acc :: ext) (.ref μ.length) (joinG (ps.map fun p => flip (gridT nn p))) := hr.gc (fun _ _ => trivial) trivial get_a0
      have hb := hJ.b.mono (show 2 ^ ns.length ≤ 64 from Nat.pow_le_pow_right (n := 2) (by decide) hn)
      refine ⟨_, _, ns, 64, rfl, gc.see, hb, by omega, ?_⟩
      rcases q with q | q
      · exact .inl (FnEnd.pure (Upd.refl μ) (grid_pu1 _) q)
      · refine .inr fun d' ext' hd' => FnEnd.here ?_
        rw [List.append_assoc] at hd' ⊢
        refine q d' _ ?_
        obtain ⟨lo, rows, e1, e2, e3, e4, e5⟩ := hd'
        refine ⟨lo, rows, e1, ?_, e3, e4, fun i s hs => ?_⟩
        · simp at e2; omega
        · obtain ⟨x, f1, f2, f3⟩ := e5 i s hs
          exact ⟨x, f1, by simp at f2; omega, f3⟩
end DV
namespace DV
open PySem PySem.Spec PyProof.Rows L2
/-! tables that are no trees, and any table -/
theorem cut_from {α : Type} (xs : List α) {k : Int} (h0 : 0 ≤ k) : cutL xs (some k) none = xs.drop k.toNat := by
  unfold cutL
  have h1 : HT.sIx xs.length 0 (some k) = min k.toNat xs.length := by
    simp only [HT.sIx]
    first | (split <;> omega) | omega
  have h2 : HT.sIx xs.length xs.length none = xs.length := rfl
  rw [h1, h2]
  rcases Nat.le_total k.toNat xs.length with h | h
  · rw [Nat.min_eq_left h, List.take_of_length_le (by simp)]
  · rw [Nat.min_eq_right h, List.drop_eq_nil_of_le (Nat.le_refl _), List.drop_eq_nil_of_le h]; simp
def S_no_tree : DSp := fun ds μ Q _ => ∃ l c ns, ds = [.ref l, .lst (ns.map .str)] ∧ μ[l]? = some (.orc (c, true)) ∧ 3 ≤ ns.length ∧ ns.length ≤ 6 ∧ 10 ≤ c ∧ ∀ c' g, c ≤ c' + 10 → GB ns 8 g → Q (gridD g) (M μ l c')
def t_no_tree_5 : DTS := dRet (dVar 6)
def t_no_tree_4 : DTS := dSeq (dFor (dIter (dVar 7)) (dName 8) (dIf (dTest (dBin gEq (dOp S_draw (dCons (dVar 0) (dCons (dC (.int 2)) (dNil)))) (dC (.int 0)))) (dAsg (dBin gAdd (dVar 6) (dCall gLst (dCons (dComp true [10] (dIter (dBin gIx (dVar 6) (dC (.int 0)))) (cName 10) (dYes) (dVar 8)) (dNil)))) (dName 6)) (dAsg (dComp true [9] (dIter (dVar 6)) (cName 9) (dYes) (dBin gAdd (dVar 9) (dCall gLst (dCons (dVar 8) (dNil))))) (dName 6)))) (t_no_tree_5)
def t_no_tree_3 : DTS := dSeq (dIf (dAndT (dTest (dBin (gI fun i j => .bl (decide (j < i))) (dCall gLen (dCons (dVar 1) dNil)) (dC (.int 3)))) (dTest (dBin gEq (dOp S_draw (dCons (dVar 0) (dCons (dC (.int 2)) (dNil)))) (dC (.int 0))))) (dSeq (dAsg (dCall gLst (dCons (dCall gLst (dCons (dVar 3) (dCons (dVar 3) (dCons (dVar 2) (dNil))))) (dCons (dCall gLst (dCons (dVar 3) (dCons (dVar 3) (dCons (dVar 4) (dNil))))) (dCons (dCall gLst (dCons (dVar 4) (dCons (dVar 5) (dCons (dVar 4) (dNil))))) (dNil))))) (dName 6)) (dAsg (dSlice true (dVar 1) (dPart (dC (.int 4))) dNoPart) (dName 7))) (dNext)) (t_no_tree_4)
def t_no_tree_2 : DTS := dSeq (dAsg (dSlice true (dVar 1) (dPart (dC (.int 3))) dNoPart) (dName 7)) (t_no_tree_3)
def t_no_tree_1 : DTS := dSeq (dAsg (dCall gLst (dCons (dCall gLst (dCons (dVar 2) (dCons (dVar 2) (dCons (dVar 3) (dNil))))) (dCons (dCall gLst (dCons (dVar 2) (dCons (dVar 2) (dCons (dVar 4) (dNil))))) (dCons (dCall gLst (dCons (dVar 3) (dCons (dVar 4) (dCons (dVar 3) (dNil))))) (dNil))))) (dName 6)) (t_no_tree_2)
def t_no_tree : DTS := dSeq (dAsg (dSlice true (dBin gAdd (dVar 1) (dSlice true (dVar 1) dNoPart (dPart (dC (.int 1))))) dNoPart (dPart (dC (.int 4)))) (dQuadL 2 3 4 5)) (t_no_tree_1)
section
variable {μ : Mu} {l c : Nat} {ns left : List Str} {g : List (List Str)} {De : DEnds} {a2 a3 a4 a5 : Option D}
theorem no_tree_loop (hlt : l < μ.length) (hg : GB ns 3 g) (hl : left.length ≤ 3) (hm : ∀ x ∈ left, x ∈ ns) (hc : 3 ≤ c)
    (kn : ∀ c' g', c ≤ c' + 3 → GB ns 8 g' → De.rt (gridD g') (M μ l c')) :
    t_no_tree_4 De [some (.ref l), some (.lst (ns.map .str)), a2, a3, a4, a5, some (gridD g), some (.lst (left.map .str)), none, none, none] (M μ l c) := by
  unfold t_no_tree_4
  rw [dSeq]
  simp only [dFor, dIter, dVar, List.getElem?_cons_zero, List.getElem?_cons_succ]
  refine loop_inv (src := none) (fun i Γ μ' => ∃ c' a8 g', c ≤ c' + i ∧ i ≤ left.length ∧ GB ns (3 + i) g' ∧ Γ = [some (.ref l), some (.lst (ns.map .str)), a2, a3, a4, a5, some (gridD g'), some (.lst (left.map .str)), a8, none, none] ∧ μ' = M μ l c') ⟨c, none, g, by omega, by omega, hg, rfl, rfl⟩ ?_ ?_
  · rintro i d Γ μ' hd ⟨c', a8, g', b1, b2, bg, rfl, rfl⟩
    have hi : i < left.length := by have := (List.getElem?_eq_some_iff.mp hd).1; simpa using this
    rw [List.getElem?_map, List.getElem?_eq_getElem hi] at hd
    cases hd
    have hw := hm _ (List.getElem_mem hi)
    generalize left[i] = w at hw
    have g2 := bg.h2
    have w2 := bg.w2
    refine ⟨trivial, fun Kn kn => ?_⟩
    simp only [dName, List.set_cons_succ, List.set_cons_zero, dIf, dTest, dBin, dOp, dCons, dNil, dVar, dC, List.getElem?_cons_zero, List.getElem?_cons_succ]
    refine draw_M hlt (by omega) (by decide) (by decide) fun p p0 p1 => ?_
    simp only [gEq, deq_int]
    refine ⟨deqOk_int _ _ _, ?_⟩
    by_cases hp : p = 0
    · rw [decide_eq_true hp, cond_true]
      simp only [dAsg, dCall, dCons, dNil]
      rw [dBin]
      simp only [dVar, List.getElem?_cons_zero, List.getElem?_cons_succ, dCall, dCons, dNil]
      refine ev_const bg (by omega) rfl rfl (by decide) fun r hr hx => ?_
      simp only [gLst, List.length_cons, List.length_nil, gridD]
      refine ⟨by decide, ?_⟩
      simp only [gAdd, lk]
      refine ⟨by rw [List.length_map, sizeLine_eq]; simp; omega, ?_⟩
      rw [app_row]
      simp only [dName, List.set_cons_succ, List.set_cons_zero]
      exact kn _ _ ⟨_, _, _, by omega, by omega, (gb_row bg hr fun x h => by rw [hx x h]; exact hw).mono (by omega), rfl, rfl⟩
    · rw [decide_eq_false hp, cond_false]
      simp only [dAsg, dComp, dIter, dVar, List.getElem?_cons_zero, List.getElem?_cons_succ, gridD, wipeG, List.set_cons_succ, List.set_cons_zero]
      refine comp_rows (fun r => .lst (r.map D.str ++ [D.str w])) (by omega) (fun r hr K1 k1 => ?_) ?_
      · have := bg.eq r hr
        simp only [dBin, dCall, dCons, dNil, dVar, List.set_cons_succ, List.set_cons_zero, List.getElem?_cons_zero, List.getElem?_cons_succ, gLst, List.length_cons, List.length_nil]
        refine ⟨by decide, ?_⟩
        simp only [gAdd, lk]
        exact ⟨by rw [List.length_map, sizeLine_eq]; simp; omega, k1⟩
      · rw [dFin, cOf_rows g' fun _ => w]
        simp only [dName, List.set_cons_succ, List.set_cons_zero]
        exact kn _ _ ⟨_, _, _, by omega, by omega, (gb_col bg fun _ _ => hw).mono (by omega), rfl, rfl⟩
  · rintro Γ μ' ⟨c', a8, g', b1, b2, bg, rfl, rfl⟩
    rw [List.length_map] at b1 bg
    refine ⟨trivial, ?_⟩
    unfold t_no_tree_5
    simp only [dRet, dVar, List.getElem?_cons_zero, List.getElem?_cons_succ]
    exact kn _ _ (by omega) (bg.mono (by omega))
theorem gb3 {x y z u v w p q r : Str} (h : ∀ s ∈ [x, y, z, u, v, w, p, q, r], s ∈ ns) : GB ns 3 [[x, y, z], [u, v, w], [p, q, r]] := by
  refine ⟨by simp, by simp, by simp [wid], by simp [wid], by simp [wid], ?_⟩
  intro s hs t ht
  refine h t ?_
  simp only [List.mem_cons, List.not_mem_nil, or_false] at hs ht ⊢
  rcases hs with rfl | rfl | rfl <;> simp only [List.mem_cons, List.not_mem_nil, or_false] at ht <;> rcases ht with rfl | rfl | rfl <;> simp
end
theorem rd_no_tree {n1 n2 n3 n4 n5 n6 n7 n8 n9 n10 n11 : Str} : ∀ ds μ Q E, S_no_tree ds μ Q E → t_no_tree (dFn μ Q E) (start0 [n1, n2, n3, n4, n5, n6, n7, n8, n9, n10, n11] ds) μ := by
  rintro _ μ Q E ⟨l, c, ns, rfl, ho, h3, h6, hc, q⟩
  have hlt := orc_lt ho
  obtain ⟨x0, x1, x2, rest, rfl⟩ : ∃ a b c r, ns = a :: b :: c :: r := by
    match ns, h3 with
    | a :: b :: c :: r, _ => exact ⟨a, b, c, r, rfl⟩
    | [], h => simp at h
    | [_], h => simp at h
    | [_, _], h => simp at h
  have hrest : rest.length ≤ 3 := by simp at h6; omega
  have key : ∃ x3, x3 ∈ x0 :: x1 :: x2 :: rest ∧ (3 < (x0 :: x1 :: x2 :: rest).length → rest.head? = some x3) ∧ cutL (((x0 :: x1 :: x2 :: rest).map D.str) ++ cutL ((x0 :: x1 :: x2 :: rest).map D.str) none (some 1)) none (some 4) = [.str x0, .str x1, .str x2, .str x3] := by
    rw [cut_to _ (by decide), cut_to _ (by decide)]
    cases rest with
    | nil => exact ⟨x0, by simp, by simp, rfl⟩
    | cons y r => exact ⟨y, by simp, by simp, rfl⟩
  obtain ⟨x3, m3, hd3, e3⟩ := key
  have e3' : ∀ (ys : List D), ys = (x0 :: x1 :: x2 :: rest).map D.str → cutL (ys ++ cutL ys none (some 1)) none (some 4) = [.str x0, .str x1, .str x2, .str x3] := fun ys h => by rw [h]; exact e3
  unfold t_no_tree
  rw [dSeq]
  simp only [dAsg, dSlice, dPart, dNoPart, dBin, dVar, dC, start0, List.length_cons, List.length_nil, List.replicate, List.cons_append, List.nil_append, List.getElem?_cons_zero, List.getElem?_cons_succ, lk, dFin, gAdd]
  generalize hys : (x0 :: x1 :: x2 :: rest).map D.str = ys
  have hyl : ys.length ≤ 6 := by rw [← hys, List.length_map]; exact h6
  have hcl : (cutL ys none (some 1)).length ≤ 1 := by rw [cut_to _ (by decide), List.length_take]; exact Nat.min_le_left _ _
  refine ⟨by rw [sizeLine_eq]; omega, ?_⟩
  rw [e3' ys hys.symm]
  simp only [dQuadL, List.map_cons, List.map_nil, List.cons_append, List.nil_append, List.set_cons_succ, List.set_cons_zero]
  unfold t_no_tree_1
  rw [dSeq]
  simp only [dAsg, dCall, dCons, dNil, dVar, List.getElem?_cons_zero, List.getElem?_cons_succ, gLst, List.length_cons, List.length_nil]
  refine ⟨by decide, by decide, by decide, by decide, ?_⟩
  simp only [dName, List.set_cons_succ, List.set_cons_zero]
  unfold t_no_tree_2
  rw [dSeq]
  simp only [dAsg, dSlice, dPart, dNoPart, dVar, dC, List.getElem?_cons_zero, List.getElem?_cons_succ, lk, dFin]
  rw [cut_from ys (by decide)]
  simp only [dName, List.set_cons_succ, List.set_cons_zero]
  have ed3 : ys.drop (Int.toNat 3) = rest.map D.str := by rw [← hys]; rfl
  rw [ed3]
  unfold t_no_tree_3
  rw [dSeq]
  simp only [dIf, dAndT, dTest, dBin, dCall, dCons, dNil, dVar, dC, List.getElem?_cons_zero, List.getElem?_cons_succ, gLen, lk, gI]
  have eyl : ys.length = rest.length + 3 := by rw [← hys]; simp
  have fin : ∀ (c1 : Nat) (g : List (List Str)) (left : List Str), c ≤ c1 + 1 → GB (x0 :: x1 :: x2 :: rest) 3 g → left.length ≤ 3 → (∀ x ∈ left, x ∈ rest) →
      t_no_tree_4 (dFn μ Q E) [some (.ref l), some (.lst ys), some (.str x0), some (.str x1), some (.str x2), some (.str x3), some (gridD g), some (.lst (left.map .str)), none, none, none] (M μ l c1) := fun c1 g left h1 h2 h4 h5 => by
    rw [← hys]
    exact no_tree_loop hlt h2 h4 (fun x hx => by simp [h5 x hx]) (by omega) fun c' g' h7 h8 => FnEnd.pure0 M_upd (grid_pu1 _) (q c' g' (by omega) h8)
  have fin1 := fun c1 h1 => fin c1 [[x0, x0, x1], [x0, x0, x2], [x1, x2, x1]] rest h1 (gb3 (by intro s hs; simp only [List.mem_cons, List.not_mem_nil, or_false] at hs; rcases hs with rfl | rfl | rfl | rfl | rfl | rfl | rfl | rfl | rfl <;> simp)) hrest (fun _ h => h)
  by_cases h4 : (3 : Int) < ys.length
  · rw [decide_eq_true h4, cond_true]
    simp only [dOp, dCons, dNil, dVar, dC, List.getElem?_cons_zero]
    refine draw_go ho (by omega) (by decide) (Nat.lt_of_lt_of_le (PySem.Flt.log2_lt_of (k := 60) (by decide) (by decide)) (by decide)) fun p p0 p1 => ?_
    simp only [gEq, deq_int]
    refine ⟨deqOk_int _ _ _, ?_⟩
    show cond (decide (p = 0)) _ _
    by_cases hp : p = 0
    · rw [decide_eq_true hp, cond_true]
      rw [dSeq]
      simp only [dAsg, dCall, dCons, dNil, dVar, List.getElem?_cons_zero, List.getElem?_cons_succ, gLst, List.length_cons, List.length_nil]
      refine ⟨by decide, by decide, by decide, by decide, ?_⟩
      simp only [dName, List.set_cons_succ, List.set_cons_zero, dAsg, dSlice, dPart, dNoPart, dVar, dC, List.getElem?_cons_zero, List.getElem?_cons_succ, lk, dFin]
      rw [cut_from ys (by decide)]
      have ed4 : ys.drop (Int.toNat 4) = (rest.drop 1).map D.str := by rw [← hys]; cases rest <;> rfl
      rw [ed4]
      refine fin (c - 1) [[x1, x1, x0], [x1, x1, x2], [x2, x3, x2]] (rest.drop 1) (by omega) (gb3 ?_) (by rw [List.length_drop]; omega) (fun x h => List.mem_of_mem_drop h)
      intro s hs
      simp only [List.mem_cons, List.not_mem_nil, or_false] at hs
      rcases hs with rfl | rfl | rfl | rfl | rfl | rfl | rfl | rfl | rfl <;> first | exact m3 | simp
    · rw [decide_eq_false hp, cond_false]
      rw [dNext]
      exact fin1 (c - 1) (by omega)
  · rw [decide_eq_false h4, cond_false, cond_false]
    rw [dNext]
    have := fin1 c (by omega)
    rw [M_id ho] at this
    exact this
end DV
namespace DV
open PySem PySem.Spec PyProof.Rows L2
/-! any table of the draw family -/
def S_rows : DSp := fun ds μ Q _ => ∃ l c ns, ds = [.ref l, .lst (ns.map .str)] ∧ μ[l]? = some (.orc (c, true)) ∧ 1 ≤ ns.length ∧ ns.length ≤ 6 ∧ 400000 ≤ c ∧ ∀ c' g, c ≤ c' + 400000 → GB ns 8 g → Q (gridD g) (M μ l c')
def t_rows_12 : DTS := dRet (dOp S_mixed (dCons (dVar 0) (dCons (dVar 7) (dNil))))
def t_rows_11 : DTS := dSeq (dIf (dAndT (dTest (dBin gEq (dVar 2) (dC (.int 4)))) (dTest (dBin (gI fun i j => .bl (decide (i < j))) (dCall gLen (dCons (dVar 7) dNil)) (dC (.int 8))))) (dAsg (dBin gAdd (dVar 7) (dCall gLst (dCons (dCall (gList true) (dCons (dBin gIx (dVar 7) (dOp S_draw (dCons (dVar 0) (dCons (dCall gLen (dCons (dVar 7) dNil)) (dNil))))) dNil)) (dNil)))) (dName 7)) (dNext)) (t_rows_12)
def t_rows_10 : DTS := dSeq (dIf (dTest (dBin gEq (dVar 2) (dC (.int 3)))) (dAsg (dBin gIx (dVar 1) (dOp S_draw (dCons (dVar 0) (dCons (dCall gLen (dCons (dVar 1) dNil)) (dNil))))) (dSetI (dBin gIx (dVar 7) (dOp S_draw (dCons (dVar 0) (dCons (dCall gLen (dCons (dVar 7) dNil)) (dNil))))) (dOp S_draw (dCons (dVar 0) (dCons (dCall gLen (dCons (dBin gIx (dVar 7) (dC (.int 0))) dNil)) (dNil)))))) (dNext)) (t_rows_11)
def t_rows_9 : DTS := dSeq (dIf (dOrT (dTest (dBin (gI fun i j => .bl (decide (j < i))) (dCall gLen (dCons (dVar 7) dNil)) (dC (.int 8)))) (dTest (dBin (gI fun i j => .bl (decide (j < i))) (dCall gLen (dCons (dBin gIx (dVar 7) (dC (.int 0))) dNil)) (dC (.int 8))))) (dRet (dVar 5)) (dNext)) (t_rows_10)
def t_rows_8 : DTS := dSeq (dAsg (dOp (S_tree_rows 6) (dCons (dOp (S_any_tree 6) (dCons (dVar 0) (dCons (dOp S_order (dCons (dVar 0) (dCons (dVar 1) (dNil)))) (dCons (dVar 6) (dNil))))) (dNil))) (dName 7)) (t_rows_9)
def t_rows_7 : DTS := dSeq (dAsg (dBin gIx (dCall gLst (dCons (dC (.str "rows")) (dCons (dC (.str "columns")) (dNil)))) (dOp S_draw (dCons (dVar 0) (dCons (dC (.int 2)) (dNil))))) (dName 6)) (t_rows_8)
def t_rows_6 : DTS := dSeq (dIf (dAndT (dTest (dBin gEq (dVar 2) (dC (.int 2)))) (dTest (dBin (gI fun i j => .bl (decide (j < i))) (dCall gLen (dCons (dVar 1) dNil)) (dC (.int 2))))) (dRet (dOp S_mixed (dCons (dVar 0) (dCons (dOp S_no_tree (dCons (dVar 0) (dCons (dVar 1) (dNil)))) (dNil))))) (dNext)) (t_rows_7)
def t_rows_5 : DTS := dSeq (dIf (dTest (dBin gEq (dVar 2) (dC (.int 1)))) (dRet (dOp S_smooth (dCons (dVar 0) (dCons (dVar 1) (dNil))))) (dNext)) (t_rows_6)
def t_rows_4 : DTS := dSeq (dIf (dTest (dBin gEq (dVar 2) (dC (.int 0)))) (dRet (dVar 5)) (dNext)) (t_rows_5)
def t_rows_3 : DTS := dSeq (dAsg (dComp true [8] (dRange1 (dVar 3)) (cName 8) (dYes) (dComp true [9] (dRange1 (dVar 4)) (cName 9) (dYes) (dBin gIx (dVar 1) (dOp S_draw (dCons (dVar 0) (dCons (dCall gLen (dCons (dVar 1) dNil)) (dNil))))))) (dName 5)) (t_rows_4)
def t_rows_2 : DTS := dSeq (dAsg (dBin gAdd (dC (.int 1)) (dOp S_draw (dCons (dVar 0) (dCons (dBin gIx (dCall gLst (dCons (dC (.int 3)) (dCons (dC (.int 4)) (dCons (dC (.int 8)) (dNil))))) (dOp S_draw (dCons (dVar 0) (dCons (dC (.int 3)) (dNil))))) (dNil))))) (dName 4)) (t_rows_3)
def t_rows_1 : DTS := dSeq (dAsg (dBin gAdd (dC (.int 1)) (dOp S_draw (dCons (dVar 0) (dCons (dBin gIx (dCall gLst (dCons (dC (.int 3)) (dCons (dC (.int 4)) (dCons (dC (.int 8)) (dNil))))) (dOp S_draw (dCons (dVar 0) (dCons (dC (.int 3)) (dNil))))) (dNil))))) (dName 3)) (t_rows_2)
def t_rows : DTS := dSeq (dAsg (dOp S_draw (dCons (dVar 0) (dCons (dC (.int 6)) (dNil)))) (dName 2)) (t_rows_1)
theorem treeB6 : treeB 6 = 337041 := by decide
section
variable {μ : Mu} {l c : Nat} {ns : List Str} {Q : D → Mu → Prop} {E : Exn → Mu → Prop}
theorem size_menu {i : Int} (h0 : 0 ≤ i) (h1 : i < 3) : ∃ b : Int, atI [D.int 3, D.int 4, D.int 8] i = some (.int b) ∧ 0 < b ∧ b ≤ 8 := by
  have : i = 0 ∨ i = 1 ∨ i = 2 := by omega
  rcases this with rfl | rfl | rfl
  · exact ⟨3, rfl, by simp⟩
  · exact ⟨4, rfl, by simp⟩
  · exact ⟨8, rfl, by simp⟩
/-- drawn rows -/
theorem comp_drawn {h w : Nat} {Γ : Gam} {K : List D → Mu → Prop} (hlt : l < μ.length) (hn : 1 ≤ ns.length) (hn2 : ns.length ≤ 6) (hh : h ≤ 8) (hw : w ≤ 8) (hw1 : 1 ≤ w) (hc : 64 ≤ c) (g0 : Γ[0]? = some (some (.ref l))) (g1 : Γ[1]? = some (some (.lst (ns.map .str)))) (g4 : Γ[4]? = some (some (.int (w : Int))))
    (gl : Γ.length = 10) (q : ∀ (c' : Nat) (g : List (List Str)), c ≤ c' + 64 → g.length = h → (∀ r ∈ g, r.length = w ∧ ∀ x ∈ r, x ∈ ns) → K (g.map rowD) (M μ l c')) :
    dCompL none (cName 8) dYes (dComp true [9] (dRange1 (dVar 4)) (cName 9) dYes (dBin gIx (dVar 1) (dOp S_draw (dCons (dVar 0) (dCons (dCall gLen (dCons (dVar 1) dNil)) dNil))))) Γ (irng 0 h) [] (M μ l c) K := by
  refine comp_inv (fun i acc μ' => ∃ (c' : Nat) (g : List (List Str)), c ≤ c' + i * 8 ∧ i ≤ h ∧ acc = g.map rowD ∧ g.length = i ∧ (∀ r ∈ g, r.length = w ∧ ∀ x ∈ r, x ∈ ns) ∧ μ' = M μ l c') ⟨c, [], by omega, by omega, rfl, rfl, by simp, rfl⟩ (by rw [irng_len, sizeLine_eq]; omega) ?_ ?_
  · rintro i d acc μ' hd ⟨c', g, b1, b2, rfl, b3, b4, rfl⟩
    obtain ⟨hi, rfl⟩ := irng_get hd
    refine ⟨trivial, fun K1 K2 k1 _ => ?_⟩
    have x0 : ∀ a b, ((wipeG (Γ.set 8 a) [9]).set 9 b)[0]? = some (some (.ref l)) := fun a b => by simp [wipeG, g0, List.getElem?_set]
    have x1 : ∀ a b, ((wipeG (Γ.set 8 a) [9]).set 9 b)[1]? = some (some (.lst (ns.map .str))) := fun a b => by simp [wipeG, g1, List.getElem?_set]
    have x4 : ∀ a, (Γ.set 8 a)[4]? = some (some (.int (w : Int))) := fun a => by simp [g4, List.getElem?_set]
    simp only [cName, dYes, cond_true]
    unfold dComp
    simp only [dRange1, dVar, x4]
    refine ⟨by omega, ?_⟩
    rw [show ((w : Int)).toNat = w from Int.toNat_natCast _]
    refine comp_inv (fun j acc μ' => ∃ (c2 : Nat) (s : List Str), c' ≤ c2 + j ∧ j ≤ w ∧ acc = s.map D.str ∧ s.length = j ∧ (∀ x ∈ s, x ∈ ns) ∧ μ' = M μ l c2) ⟨c', [], by omega, by omega, rfl, rfl, by simp, rfl⟩ (by rw [irng_len, sizeLine_eq]; omega) ?_ ?_
    · rintro j d acc μ' hd ⟨c2, s, d1, d2, rfl, d3, d4, rfl⟩
      obtain ⟨hj, rfl⟩ := irng_get hd
      refine ⟨trivial, fun L1 L2 l1 _ => ?_⟩
      simp only [cName, dYes, cond_true, dBin, dOp, dCall, dCons, dNil, dVar, x0, x1, gLen, lk, List.length_map]
      refine draw_M hlt (by omega) (by omega) (by omega) fun t t0 t1 => ?_
      obtain ⟨x, hx, ex⟩ := word_at (W := ns) t0 (by omega)
      simp only [gIx, lk, ex]
      refine l1 _ _ ⟨c2 - 1, s ++ [x], by omega, by omega, by simp, by simp [d3], fun y hy => ?_, rfl⟩
      rcases List.mem_append.mp hy with z | z
      · exact d4 y z
      · rw [List.mem_singleton.mp z]; exact hx
    · rintro acc μ' ⟨c2, s, d1, d2, rfl, d3, d4, rfl⟩
      rw [irng_len] at d1 d3
      refine ⟨trivial, ?_⟩
      rw [dFin]
      refine k1 _ _ ⟨c2, g ++ [s], by omega, by omega, by simp, by simp [b3], fun r hr => ?_, rfl⟩
      rcases List.mem_append.mp hr with z | z
      · exact b4 r z
      · rw [List.mem_singleton.mp z]; exact ⟨d3, d4⟩
  · rintro acc μ' ⟨c', g, b1, b2, rfl, b3, b4, rfl⟩
    rw [irng_len] at b1 b3
    exact ⟨trivial, q c' g (by omega) b3 b4⟩
/-- the end: mixed -/
theorem rows_mix {c1 : Nat} {d : D} {ext : Mu} {g : List (List Str)} {a2 a3 a4 a5 a6 : Option D} (hlt : l < μ.length) (hs : GSee (fun _ => True) (M μ l c1 ++ ext) d g) (hg : GB ns 8 g) (hc : 16 ≤ c1) (q : ∀ c' g', c1 ≤ c' + 16 → GB ns 8 g' → Q (gridD g') (M μ l c')) :
    t_rows_12 (dFn μ Q E) [some (.ref l), some (.lst (ns.map .str)), a2, a3, a4, a5, a6, some d, none, none] (M μ l c1 ++ ext) := by
  unfold t_rows_12
  simp only [dRet, dOp, dCons, dNil, dVar, List.getElem?_cons_zero, List.getElem?_cons_succ]
  refine ⟨l, c1, d, g, ns, 8, rfl, get_app (M_get hlt), hs, hg, by omega, by omega, fun c' g' h1 h2 => ?_⟩
  rw [M_app (by rw [M_len]; exact hlt), show M (M μ l c1) l c' = M μ l c' from M_set]
  exact FnEnd.pure M_upd (grid_pu1 _) (q c' g' (by omega) (h2.gb hg))
theorem rows_11 {c1 : Nat} {d : D} {ext : Mu} {g : List (List Str)} {p : Int} {a3 a4 a5 a6 : Option D} (hlt : l < μ.length) (hs : GSee (fun _ => True) (M μ l c1 ++ ext) d g) (hg : GB ns 8 g) (hc : 20 ≤ c1) (q : ∀ c' g', c1 ≤ c' + 20 → GB ns 8 g' → Q (gridD g') (M μ l c')) :
    t_rows_11 (dFn μ Q E) [some (.ref l), some (.lst (ns.map .str)), some (.int p), a3, a4, a5, a6, some d, none, none] (M μ l c1 ++ ext) := by
  have g2 := hg.h2
  have g1 := hg.h1
  have q' : ∀ c' g', c1 ≤ c' + 16 → GB ns 8 g' → Q (gridD g') (M μ l c') := fun c' g' h1 h2 => q c' g' (by omega) h2
  obtain ⟨rows, s1, s2, s3⟩ := id hs
  unfold t_rows_11
  rw [dSeq]
  simp only [dIf, dAndT, dTest, dBin, dVar, dC, dCall, dCons, dNil, List.getElem?_cons_zero, List.getElem?_cons_succ, gEq, deq_int]
  refine ⟨deqOk_int _ _ _, ?_⟩
  show cond (decide (p = 4)) _ _
  by_cases hp : p = 4
  · rw [decide_eq_true hp, cond_true]
    rw [ev_len s1]
    simp only [gI, s2]
    by_cases h8 : (g.length : Int) < 8
    · rw [decide_eq_true h8, cond_true]
      simp only [dAsg, dBin, dOp, dCall, dCons, dNil, dVar, List.getElem?_cons_zero, List.getElem?_cons_succ]
      rw [ev_len s1, s2]
      refine draw_E hlt (by omega) (by omega) (by omega) fun k k0 k1 => ?_
      obtain ⟨k, rfl⟩ : ∃ k' : Nat, k = (k' : Int) := ⟨k.toNat, by omega⟩
      have hk : k < g.length := by omega
      obtain ⟨r, e1, e2⟩ := s3 k g[k] (List.getElem?_eq_getElem hk)
      have s1' : See (fun _ => True) (M μ l (c1 - 1) ++ ext) d rows := by
        have : (M μ l c1 ++ ext)[l]? = some (.orc (c1, true)) := get_app (M_get hlt)
        have := s1.orcM (c' := c1 - 1) this
        rwa [M_app (by rw [M_len]; exact hlt), show M (M μ l c1) l (c1 - 1) = M μ l (c1 - 1) from M_set] at this
      have sall : ∀ r xs, See (fun _ => True) (M μ l c1 ++ ext) r xs → See (fun _ => True) (M μ l (c1 - 1) ++ ext) r xs := fun r xs h => by
        have : (M μ l c1 ++ ext)[l]? = some (.orc (c1, true)) := get_app (M_get hlt)
        have := h.orcM (c' := c1 - 1) this
        rwa [M_app (by rw [M_len]; exact hlt), show M (M μ l c1) l (c1 - 1) = M μ l (c1 - 1) from M_set] at this
      have e2' := sall _ _ e2
      rw [ev_ix s1' e1]
      have hr := List.getElem_mem hk
      have hrl := hg.eq _ hr
      generalize g[k] = s at e2' hr hrl
      simp only [gList, e2'.lk, dFinD, gLst, List.length_cons, List.length_nil]
      refine ⟨by decide, ?_⟩
      simp only [gAdd, s1'.lk]
      refine ⟨by rw [sizeLine_eq]; simp; omega, ?_⟩
      simp only [dName, List.set_cons_succ, List.set_cons_zero]
      refine rows_mix hlt (g := g ++ [s]) ⟨rows ++ [rowD s], .inl rfl, by simp [s2], fun i t ht => ?_⟩ ?_ (by omega) fun c' g' h1 h2 => q c' g' (by omega) h2
      · rcases get_app1_lt ht with ⟨hi, ht⟩ | ⟨hi, rfl⟩
        · obtain ⟨r', f1, f2⟩ := s3 i t ht
          exact ⟨r', by rw [List.getElem?_append_left (by omega)]; exact f1, sall _ _ f2⟩
        · subst hi
          exact ⟨rowD t, by rw [← s2]; simp, .inl rfl⟩
      · exact (gb_row (hg.shrink (m := 8) hg.h2 hg.w2) hrl (hg.mem s hr)).shrink (by simp; omega) (by rw [wid_app g1]; exact hg.w2)
    · rw [decide_eq_false h8, cond_false]
      rw [dNext]
      try dsimp only
      exact rows_mix hlt hs hg (by omega) q'
  · rw [decide_eq_false hp, cond_false, cond_false]
    rw [dNext]
    try dsimp only
    exact rows_mix hlt hs hg (by omega) q'
theorem GSee.drawn {p : Nat → Prop} {ext : Mu} {c' : Nat} {d : D} {g : List (List Str)} (hlt : l < μ.length) (h : GSee p (M μ l c ++ ext) d g) : GSee p (M μ l c' ++ ext) d g := by
  have ho : (M μ l c ++ ext)[l]? = some (.orc (c, true)) := get_app (M_get hlt)
  have sall : ∀ r xs, See p (M μ l c ++ ext) r xs → See p (M μ l c' ++ ext) r xs := fun r xs h => by
    have := h.orcM (c' := c') ho
    rwa [M_app (by rw [M_len]; exact hlt), show M (M μ l c) l c' = M μ l c' from M_set] at this
  obtain ⟨rows, h1, h2, h3⟩ := h
  exact ⟨rows, sall _ _ h1, h2, fun i s e => let ⟨r, a, b⟩ := h3 i s e; ⟨r, a, sall _ _ b⟩⟩
theorem GCell.drawn {p : Nat → Prop} {ext : Mu} {c' : Nat} {d : D} {g : List (List Str)} (hlt : l < μ.length) (h : GCell p (M μ l c ++ ext) d g) : GCell p (M μ l c' ++ ext) d g := by
  have ho : (M μ l c ++ ext)[l]? = some (.orc (c, true)) := get_app (M_get hlt)
  have keep : ∀ (k : Nat) xs, (M μ l c ++ ext)[k]? = some (.lst xs) → (M μ l c' ++ ext)[k]? = some (.lst xs) := fun k xs hk => by
    have hne : l ≠ k := by rintro rfl; rw [hk] at ho; cases ho
    have : (M (M μ l c ++ ext) l c')[k]? = some (.lst xs) := by rw [M_ne hne]; exact hk
    rwa [M_app (by rw [M_len]; exact hlt), show M (M μ l c) l c' = M μ l c' from M_set] at this
  obtain ⟨lo, rows, h1, h2, h3, h4, h5⟩ := h
  exact ⟨lo, rows, h1, h2, keep _ _ h3, h4, fun i s e => let ⟨m, a, b, d⟩ := h5 i s e; ⟨m, a, b, keep _ _ d⟩⟩
theorem M_setE {k : Nat} {x : Cell} {ext : Mu} (hk : μ.length ≤ k) : (M μ l c ++ ext).set k x = M μ l c ++ ext.set (k - μ.length) x := by
  rw [List.set_append_right _ _ (by rw [M_len]; exact hk), M_len]
theorem rows_10 {c1 : Nat} {d : D} {ext : Mu} {g : List (List Str)} {p : Int} {a3 a4 a5 a6 : Option D} (hlt : l < μ.length) (hn : 1 ≤ ns.length) (hn6 : ns.length ≤ 6) (hs : GCell (fun k => μ.length ≤ k) (M μ l c1 ++ ext) d g) (hg : GB ns 8 g) (hc : 30 ≤ c1) (q : ∀ c' g', c1 ≤ c' + 30 → GB ns 8 g' → Q (gridD g') (M μ l c')) :
    t_rows_10 (dFn μ Q E) [some (.ref l), some (.lst (ns.map .str)), some (.int p), a3, a4, a5, a6, some d, none, none] (M μ l c1 ++ ext) := by
  have g2 := hg.h2
  have g1 := hg.h1
  have w2 := hg.w2
  have w1 := hg.w1
  unfold t_rows_10
  rw [dSeq]
  refine if_int (p := p) rfl ?_
  by_cases hp : p = 3
  · rw [if_pos hp]
    simp only [dAsg, dBin, dOp, dCall, dCons, dNil, dVar, List.getElem?_cons_zero, List.getElem?_cons_succ, gLen, lk, List.length_map]
    refine draw_E hlt (by omega) (by omega) (by omega) fun t t0 t1 => ?_
    obtain ⟨w, hw, ew⟩ := word_at (W := ns) t0 (by omega)
    simp only [gIx, lk, ew]
    have hs1 := hs.drawn (c' := c1 - 1) hlt
    obtain ⟨rows, s1, s2, s3⟩ := hs1.see
    simp only [dSetI, dBin, dOp, dCall, dCons, dNil, dVar, dC, List.getElem?_cons_zero, List.getElem?_cons_succ]
    rw [ev_len s1, s2]
    refine draw_E hlt (by omega) (by omega) (by omega) fun i i0 i1 => ?_
    obtain ⟨i, rfl⟩ : ∃ k' : Nat, i = (k' : Int) := ⟨i.toNat, by omega⟩
    have hi : i < g.length := by omega
    have hs2 := hs1.drawn (c' := c1 - 1 - 1) hlt
    obtain ⟨lo, rows2, f1, f2, f3, f4, f5⟩ := id hs2
    subst f1
    have S1 : See (fun _ => True) (M μ l (c1 - 1 - 1) ++ ext) (.ref lo) rows2 := .inr ⟨lo, rfl, trivial, f3⟩
    obtain ⟨m, m1, m2, m3⟩ := f5 i g[i] (List.getElem?_eq_getElem hi)
    rw [ev_ix S1 m1]
    obtain ⟨m', z1, z2, z3⟩ := f5 0 g[0] (List.getElem?_eq_getElem (by omega))
    rw [ev_ix0 S1 z1]
    have e0 : lk (M μ l (c1 - 1 - 1) ++ ext) (.ref m') = .lst (g[0].map .str) := lk_cell z3
    have hl0 : g[0].length = wid g := hg.eq _ (List.getElem_mem _)
    simp only [gLen, e0, List.length_map, hl0]
    refine draw_E hlt (by omega) (by omega) (by omega) fun j j0 j1 => ?_
    have hs3 := hs2.drawn (c' := c1 - 1 - 1 - 1) hlt
    obtain ⟨lo', rows3, y1, y2, y3, y4, y5⟩ := id hs3
    cases y1
    have S3 : See (fun _ => True) (M μ l (c1 - 1 - 1 - 1) ++ ext) (.ref lo) rows3 := .inr ⟨lo, rfl, trivial, y3⟩
    obtain ⟨mm, v1, v2, v3⟩ := y5 i g[i] (List.getElem?_eq_getElem hi)
    have hmm : mm = m := by
      have a1 : (M μ l (c1 - 1 - 1 - 1) ++ ext)[lo]? = (M μ l (c1 - 1 - 1) ++ ext)[lo]? := by
        rw [List.getElem?_append_right (by rw [M_len]; exact y2), List.getElem?_append_right (by rw [M_len]; exact y2), M_len, M_len]
      rw [y3, f3] at a1
      cases a1
      rw [m1] at v1
      cases v1
      rfl
    subst hmm
    have hil : g[i].length = wid g := hg.eq _ (List.getElem_mem hi)
    have ej : ixN ((g[i].map D.str).length) j = some j.toNat := ixN_nat j0 (by rw [List.length_map, hil]; exact j1)
    simp only [v3, ej]
    have em : (g[i].map D.str).set j.toNat (.str w) = (g[i].set j.toNat w).map .str := by rw [List.map_set]
    rw [em]
    obtain ⟨g', b', c'⟩ := hs3.rowset hg S3 i v1 v3 (s' := g[i].set j.toNat w) (by rw [List.length_set, hil]) (fun x hx => by
      rcases List.mem_or_eq_of_mem_set hx with z | z
      · exact hg.mem _ (List.getElem_mem hi) x z
      · rw [z]; exact hw)
    rw [M_setE v2] at c' ⊢
    exact rows_11 hlt (c'.see.any) b' (by omega) fun c2 g2 h1 h2 => q c2 g2 (by omega) h2
  · rw [if_neg hp]
    rw [dNext]
    try dsimp only
    exact rows_11 hlt hs.see.any hg (by omega) fun c2 g2 h1 h2 => q c2 g2 (by omega) h2
end
theorem rd_rows {n1 n2 n3 n4 n5 n6 n7 n8 n9 n10 : Str} : ∀ ds μ Q E, S_rows ds μ Q E → t_rows (dFn μ Q E) (start0 [n1, n2, n3, n4, n5, n6, n7, n8, n9, n10] ds) μ := by
  rintro _ μ Q E ⟨l, c, ns, rfl, ho, hn, hn6, hc, q⟩
  have hlt := orc_lt ho
  unfold t_rows
  rw [dSeq]
  simp only [dAsg, dOp, dCons, dNil, dVar, dC, start0, List.map_cons, List.map_nil, List.length_cons, List.length_nil, List.replicate, List.cons_append, List.nil_append, List.getElem?_cons_zero, List.getElem?_cons_succ]
  refine draw_go ho (by omega) (by decide) (Nat.lt_of_lt_of_le (PySem.Flt.log2_lt_of (k := 60) (by decide) (by decide)) (by decide)) fun p p0 p1 => ?_
  simp only [dName, List.set_cons_succ, List.set_cons_zero]
  show t_rows_1 _ _ (M μ l (c - 1))
  unfold t_rows_1
  rw [dSeq]
  simp only [dAsg, dBin, dOp, dCall, dCons, dNil, dVar, dC, List.getElem?_cons_zero, List.getElem?_cons_succ, gLst, List.length_cons, List.length_nil]
  refine ⟨by decide, draw_M hlt (by omega) (by decide) (by decide) fun i i0 i1 => ?_⟩
  obtain ⟨h, eh, h0, h8⟩ := size_menu i0 i1
  simp only [gIx, lk, eh]
  refine draw_M hlt (by omega) h0 (by omega) fun hh hh0 hh1 => ?_
  simp only [gAdd, lk, dName, List.set_cons_succ, List.set_cons_zero]
  unfold t_rows_2
  rw [dSeq]
  simp only [dAsg, dBin, dOp, dCall, dCons, dNil, dVar, dC, List.getElem?_cons_zero, List.getElem?_cons_succ, gLst, List.length_cons, List.length_nil]
  refine ⟨by decide, draw_M hlt (by omega) (by decide) (by decide) fun i i0 i1 => ?_⟩
  obtain ⟨w, ew, w0, w8⟩ := size_menu i0 i1
  simp only [gIx, lk, ew]
  refine draw_M hlt (by omega) w0 (by omega) fun ww ww0 ww1 => ?_
  simp only [gAdd, lk, dName, List.set_cons_succ, List.set_cons_zero]
  obtain ⟨H, eH, H1, H8⟩ : ∃ k : Nat, 1 + hh = (k : Int) ∧ 1 ≤ k ∧ k ≤ 8 := ⟨(1 + hh).toNat, by omega, by omega, by omega⟩
  obtain ⟨V, eV, V1, V8⟩ : ∃ k : Nat, 1 + ww = (k : Int) ∧ 1 ≤ k ∧ k ≤ 8 := ⟨(1 + ww).toNat, by omega, by omega, by omega⟩
  rw [eH, eV]
  unfold t_rows_3
  rw [dSeq]
  simp only [dAsg]
  rw [dComp]
  simp only [dRange1, dVar, List.getElem?_cons_zero, List.getElem?_cons_succ]
  refine ⟨by omega, ?_⟩
  simp only [wipeG, List.set_cons_succ, List.set_cons_zero]
  rw [show ((H : Int)).toNat = H from Int.toNat_natCast _]
  refine comp_drawn hlt hn hn6 H8 V8 V1 (by omega) rfl rfl rfl rfl fun c1 g hc1 gH gR => ?_
  rw [dFin]
  simp only [dName, List.set_cons_succ, List.set_cons_zero]
  show t_rows_4 _ [_, _, _, _, _, some (gridD g), _, _, _, _] _
  have bg : GB ns 8 g := by
    have hw : wid g = V := by
      cases g with
      | nil => simp at gH; omega
      | cons r g => exact (gR r List.mem_cons_self).1
    exact ⟨by omega, by omega, by omega, by omega, fun r hr => by rw [hw]; exact (gR r hr).1, fun r hr => (gR r hr).2⟩
  unfold t_rows_4
  rw [dSeq]
  refine if_int (p := p) rfl ?_
  by_cases hp0 : p = 0
  · rw [if_pos hp0]
    simp only [dRet, dVar, List.getElem?_cons_zero, List.getElem?_cons_succ]
    exact FnEnd.pure0 M_upd (grid_pu1 _) (q c1 g (by omega) bg)
  rw [if_neg hp0, dNext]
  try dsimp only
  unfold t_rows_5
  rw [dSeq]
  refine if_int (p := p) rfl ?_
  by_cases hp1 : p = 1
  · rw [if_pos hp1]
    simp only [dRet, dOp, dCons, dNil, dVar, List.getElem?_cons_zero, List.getElem?_cons_succ]
    refine ⟨l, c1, ns, rfl, M_get hlt, hn, by omega, by omega, fun c2 g2 g' h1 h2 h3 => ?_⟩
    rw [show M (M μ l c1) l c2 = M μ l c2 from M_set]
    exact FnEnd.pure0 M_upd (grid_pu1 _) (q c2 g' (by omega) (h3.gb h2.b))
  rw [if_neg hp1, dNext]
  try dsimp only
  unfold t_rows_6
  rw [dSeq]
  have rest : t_rows_7 (dFn μ Q E) [some (.ref l), some (.lst (ns.map .str)), some (.int p), some (.int (H : Int)), some (.int (V : Int)), some (gridD g), none, none, none, none] (M μ l c1) := by
    unfold t_rows_7
    rw [dSeq]
    simp only [dAsg, dBin, dOp, dCall, dCons, dNil, dVar, dC, List.getElem?_cons_zero, List.getElem?_cons_succ, gLst, List.length_cons, List.length_nil]
    refine ⟨by decide, draw_M hlt (by omega) (by decide) (by decide) fun i i0 i1 => ?_⟩
    obtain ⟨r, er⟩ : ∃ r, atI [D.str (Str.ofString "rows"), .str (Str.ofString "columns")] i = some (sideD r) := by
      have : i = 0 ∨ i = 1 := by omega
      rcases this with rfl | rfl
      · exact ⟨true, rfl⟩
      · exact ⟨false, rfl⟩
    simp only [gIx, lk]
    rw [er]
    simp only [dName, List.set_cons_succ, List.set_cons_zero]
    unfold t_rows_8
    rw [dSeq]
    simp only [dAsg, dOp, dCons, dNil, dVar, List.getElem?_cons_zero, List.getElem?_cons_succ]
    have pu : ∀ ms : List Str, D.puL (ms.map D.str) = true := fun ms => by
      rw [puL_iff]; intro y hy; obtain ⟨z, _, rfl⟩ := List.mem_map.mp hy; rfl
    refine ⟨l, c1 - 1, .lst (ns.map .str), ns.map .str, rfl, M_get hlt, .inl rfl, by rw [List.length_map]; omega, by rw [List.length_map]; omega, .inl ⟨pu ns, fun c2 ys h1 h2 => ?_⟩⟩
    rw [List.length_map] at h1
    obtain ⟨ms, rfl, pm⟩ := perm_map_inv h2 rfl
    rw [show M (M μ l (c1 - 1)) l c2 = M μ l c2 from M_set]
    have hml := pm.length_eq
    refine ⟨l, c2, .lst (ms.map .str), ms, r, rfl, M_get hlt, rfl, by omega, by omega, by omega, by rw [treeB6]; omega, fun c3 t h3 h4 => ?_⟩
    rw [treeB6] at h3
    rw [show M (M μ l c2) l c3 = M μ l c3 from M_set]
    refine ⟨t, ms, rfl, h4, by omega, .inr fun d' ext hd => ?_⟩
    simp only [dName, List.set_cons_succ, List.set_cons_zero]
    have hT := (gridT_ok h4).perm pm
    have b64 := hT.b.mono (show 2 ^ ns.length ≤ 64 from Nat.pow_le_pow_right (n := 2) (by decide) hn6)
    rw [M_len] at hd
    unfold t_rows_9
    rw [dSeq]
    obtain ⟨rows, s1, s2, s3⟩ := hd.see
    have hl1 := b64.h1
    obtain ⟨r0, z1, z2⟩ := s3 0 (gridT 6 t)[0] (List.getElem?_eq_getElem (by omega))
    have hl0 : (gridT 6 t)[0].length = wid (gridT 6 t) := b64.eq _ (List.getElem_mem _)
    simp only [dIf, dOrT, dTest, dBin, dCall, dCons, dNil, dVar, dC, List.getElem?_cons_zero, List.getElem?_cons_succ]
    rw [ev_len s1, s2]
    simp only [gI]
    by_cases hb1 : (8 : Int) < (gridT 6 t).length
    · rw [decide_eq_true hb1, cond_true, cond_true]
      simp only [dRet, dVar, List.getElem?_cons_zero, List.getElem?_cons_succ]
      exact FnEnd.pure M_upd (grid_pu1 _) (q c3 g (by omega) bg)
    · rw [decide_eq_false hb1, cond_false]
      rw [ev_ix0 s1 z1, ev_len z2, List.length_map, hl0]
      simp only
      by_cases hb2 : (8 : Int) < wid (gridT 6 t)
      · rw [decide_eq_true hb2, cond_true]
        simp only [dRet, dVar, List.getElem?_cons_zero, List.getElem?_cons_succ]
        exact FnEnd.pure M_upd (grid_pu1 _) (q c3 g (by omega) bg)
      · rw [decide_eq_false hb2, cond_false, dNext]
        exact rows_10 hlt hn hn6 hd (b64.shrink (by omega) (by omega)) (by omega) fun c4 g4 h5 h6 => q c4 g4 (by omega) h6
  simp only [dIf, dAndT, dTest, dBin, dVar, dC, dCall, dCons, dNil, List.getElem?_cons_zero, List.getElem?_cons_succ, gEq, deq_int]
  refine ⟨deqOk_int _ _ _, ?_⟩
  show cond (decide (p = 2)) _ _
  by_cases hp2 : p = 2
  · rw [decide_eq_true hp2, cond_true]
    simp only [gLen, lk, List.length_map, gI]
    by_cases h3 : (2 : Int) < ns.length
    · rw [decide_eq_true h3, cond_true]
      simp only [dRet, dOp, dCons, dNil, dVar, List.getElem?_cons_zero, List.getElem?_cons_succ]
      refine ⟨l, c1, ns, rfl, M_get hlt, by omega, hn6, by omega, fun c2 g2 h1 h2 => ?_⟩
      rw [show M (M μ l c1) l c2 = M μ l c2 from M_set]
      refine ⟨l, c2, _, g2, ns, 8, rfl, M_get hlt, GSee.data, h2, by omega, by omega, fun c3 g3 h4 h5 => ?_⟩
      rw [show M (M μ l c2) l c3 = M μ l c3 from M_set]
      exact FnEnd.pure0 M_upd (grid_pu1 _) (q c3 g3 (by omega) (h5.gb h2))
    · rw [decide_eq_false h3, cond_false, dNext]
      exact rest
  · rw [decide_eq_false hp2, cond_false, cond_false, dNext]
    exact rest
end DV
namespace DV
open PySem PySem.Spec PyProof.Rows L2
/-! the openings of the draw family's laws -/
abbrev MO (c : Nat) : Mu := [Cell.orc (c, true)]
theorem M_MO {c c' : Nat} : M (MO c) 0 c' = MO c' := rfl
theorem MO_get {c : Nat} : (MO c)[0]? = some (.orc (c, true)) := rfl
theorem GB.tokN {W : List Str} {g : List (List Str)} (h : GB W 8 g) (hl : W.length ≤ 6) (ho : ∀ x ∈ W, validN x = true) : TOk g := ⟨h.h1, h.h2, h.w1, h.w2, h.eq, fun r hr x hx => ho x (h.mem r hr x hx), by
  have := nodup_sub_len (outs_nodup (g := g)) (m := W) fun x hx => by
    obtain ⟨r, hr, hx⟩ := outs_mem.mp hx
    exact h.mem r hr x hx
  omega⟩
theorem draw_MO {c : Nat} {m : Int} {Q : D → Mu → Prop} {E : Exn → Mu → Prop} (hc : 0 < c) (hm : 0 < m) (hm2 : m.natAbs < 2 ^ 60) (q : ∀ d, 0 ≤ d → d < m → Q (.int d) (MO (c - 1))) : S_draw [.ref 0, .int m] (MO c) Q E :=
  draw_M (μ := MO c) (l := 0) (c := c) (by simp) hc hm hm2 q
theorem cut8 {α : Type} {xs : List α} (h : xs.length ≤ 8) : cutL xs none (some 8) = xs := by
  rw [cut_to _ (by decide), List.take_of_length_le (by simpa using h)]
end DV
local macro_rules | `(tactic| walk_at "dv") => `(tactic| try simp only [DV.dSeq, DV.dIf, DV.dOrT, DV.dAndT, DV.dNotT, DV.dTest, DV.dChain, DV.dC, DV.dCall, DV.gLen, DV.dCons, DV.dVar, DV.dNil, DV.dBin, DV.dUn, DV.gNeg, DV.gIn, DV.gIx, DV.dRet, DV.dRetN, DV.dNext, DV.dFor, DV.dIter, DV.dName, DV.lk, DV.dAsg, DV.dDrop, DV.gLst, DV.gTup, DV.gLstM, DV.gAdd, DV.gI, DV.gMod, DV.gMul, DV.gFdiv, DV.gPow, DV.gAbs, DV.gInt, DV.gList, DV.gTuple, DV.dOp, DV.dOpK, DV.dIsi, DV.tyD, DV.gIs, DV.gIsNot, DV.D.isN, DV.dJoin, DV.dCellM, DV.dSetI, DV.dSlice, DV.dPart, DV.dNoPart, DV.dRevA, DV.dFin, DV.dAugI, DV.dComp, DV.wipeG, DV.cName, DV.cPair, DV.dYes, DV.dRange1, DV.dRange2, DV.dAnd, DV.dOr, DV.dNot, DV.dIfE, DV.gEq, DV.gNe, DV.sgn_one, DV.atI_zero, DV.dTruth, DV.truD, DV.dBreak, DV.dCont, DV.gSorted, DV.dSortK, DV.dRevT, DV.gInD, DV.gIsB, DV.gStr, DV.dPop0, DV.dDict, DV.dPairs, DV.keysD, DV.keyOfD, DV.dFinD, DV.dFld, DV.dSetF, DV.dMake, DV.dMethod, DV.dProp, DV.dOwnIx, DV.dNever, DV.gMulM, DV.gAddM, DV.gMax2, DV.dPair, DV.gDGet, DV.dSetD, DV.dDict0, DV.dComp2, DV.dSortSC, DV.isIns, DV.insOf,
  List.getElem?_cons_zero, List.getElem?_cons_succ, List.set_cons_zero, List.set_cons_succ, List.map_cons, List.map_nil, List.length_cons, List.length_nil, List.replicate, Nat.sub_self, List.append_nil, List.cons_append, List.nil_append, DV.start0, if_true, if_false, Bool.not_true, Bool.not_false, Bool.false_eq_true, Bool.true_and, Bool.and_true, Bool.or_true, Bool.true_or, Bool.false_or, Bool.or_false, eq_self_iff_true, not_true_eq_false, not_false_eq_true, ite_true, ite_false, cond_true, cond_false])
namespace DV
open PySem PySem.Spec PyProof.Rows L2
/-! words without zz9; the wishes that a law draws; unlike outcomes. -/
abbrev ZZ : Str := Str.ofString "zz9"
theorem lkO {c : Nat} {ρ : Mu} {xs : List D} : lk (O c (ρ ++ [.lst xs])) (.ref (ρ.length + 1)) = .lst xs := by
  unfold lk; simp
theorem getO {c : Nat} {ρ : Mu} {x : Cell} : (O c (ρ ++ [x]))[ρ.length + 1]? = some x := by
  rw [List.getElem?_cons_succ]; exact get_a0
theorem setO {c : Nat} {ρ : Mu} {x y : Cell} : (O c (ρ ++ [x])).set (ρ.length + 1) y = O c (ρ ++ [y]) := by
  rw [List.set_cons_succ, set_a0]
section
variable {De : DEnds} {a0 a1 a3 a4 a7 : Option D} {W ns : List Str} {ρ : Mu} {c : Nat} {pl : Int}
theorem ws3 (hW : WOk W) (hz : ZZ ∉ W) (hn : NOk ns) (hs : ∀ x ∈ ns, x ∈ W) (k : ∀ ns', NOk ns' → (∀ x ∈ ns', x ∈ W) → De.nx [a0, a1, some (.lst (W.map .str)), a3, a4, some (.ref (ρ.length + 1)), some (.int pl), a7] (O c (ρ ++ [.lst (ns'.map .str)]))) :
    dIf (dAndT (dTest (dBin gEq (dVar 6) (dC (.int 0)))) (dTest (dBin (gI fun i j => .bl (decide (i < j))) (dCall gLen (dCons (dVar 5) dNil)) (dC (.int 6))))) (dDrop (dCellM cAppend (dVar 5) (dCons (dBin gIx (dComp true [7] (dIter (dVar 2)) (cName 7) (dTest (dBin (gIn true) (dVar 7) (dVar 5))) (dVar 7)) (dC (.int 0))) dNil))) (dNext) De [a0, a1, some (.lst (W.map .str)), a3, a4, some (.ref (ρ.length + 1)), some (.int pl), a7] (O c (ρ ++ [.lst (ns.map .str)])) := by
  simp only [dIf, dAndT, dTest, dBin, dC, dVar, List.getElem?_cons_zero, List.getElem?_cons_succ, gEq, deq_int]
  refine ⟨deqOk_int _ _ _, ?_⟩
  by_cases h0 : pl = 0
  · rw [decide_eq_true h0]
    simp only [cond_true, dCall, dCons, dNil, dVar, List.getElem?_cons_zero, List.getElem?_cons_succ, gLen, lkO, gI, List.length_map]
    by_cases h6 : (ns.length : Int) < 6
    · rw [decide_eq_true h6]
      simp only [cond_true, dDrop, dCellM, dVar, List.getElem?_cons_zero, List.getElem?_cons_succ, get_a0, dCons, dNil, dComp, dIter, wipeG, List.set_cons_zero, List.set_cons_succ]
      refine comp_filtS (src := none) (fun x => decide (x ∉ ns)) trivial W (by rw [wipeG_len]; simp) (by rw [hW.len]; decide) (fun x hx K kk => ?_) ?_
      · simp only [dTest, dBin, gIn, dVar, wipeG, List.set_cons_zero, List.set_cons_succ, List.getElem?_cons_zero, List.getElem?_cons_succ]
        rw [lkO]
        dsimp only
        refine ⟨⟨rfl, flat_strs' _⟩, ?_⟩
        rw [inF_strs]
        simpa using kk
      · simp only [dFin]
        obtain ⟨w, r, e⟩ : ∃ w r, W.filter (fun x => decide (x ∉ ns)) = w :: r := by
          cases e : W.filter (fun x => decide (x ∉ ns)) with
          | cons w r => exact ⟨w, r, rfl⟩
          | nil =>
            exfalso
            have : ∀ x ∈ W, x ∈ ns := fun x hx => by
              have := List.filter_eq_nil_iff.mp e x hx
              simpa using this
            have := nodup_sub_len hW.nd this
            rw [hW.len] at this
            omega
        have hw : w ∈ W.filter (fun x => decide (x ∉ ns)) := by rw [e]; exact List.mem_cons_self
        rw [List.mem_filter, decide_eq_true_eq] at hw
        rw [e, List.map_cons]
        simp only [dC, gIx, lk, atI_zero]
        rw [getO]
        dsimp only
        rw [append_at (by rw [List.length_map]; omega)]
        dsimp only
        rw [setO]
        rw [show (ns.map D.str ++ [D.str w]) = (ns ++ [w]).map .str from by simp]
        refine k (ns ++ [w]) ⟨?_, by simp, by simp; omega, fun x hx => ?_⟩ fun x hx => ?_
        · rw [List.nodup_append]
          exact ⟨hn.nd, by simp, fun a ha b hb z => by rw [List.mem_singleton.mp hb] at z; exact hw.2 (z ▸ ha)⟩
        · rcases List.mem_append.mp hx with h | h
          · exact hn.ok x h
          · rw [List.mem_singleton.mp h]; exact hW.ok w hw.1
        · rcases List.mem_append.mp hx with h | h
          · exact hs x h
          · rw [List.mem_singleton.mp h]; exact hw.1
    · rw [decide_eq_false h6]
      exact k ns hn hs
  · rw [decide_eq_false h0]
    exact k ns hn hs
theorem ws4 (hn : NOk ns) (hs : ∀ x ∈ ns, x ∈ W) (hc : 0 < c) (k : ∀ c' ns', c ≤ c' + 1 → NOk ns' → (∀ x ∈ ns', x ∈ W) → De.nx [some (.ref 0), a1, some (.lst (W.map .str)), a3, a4, some (.ref (ρ.length + 1)), some (.int pl), a7] (O c' (ρ ++ [.lst (ns'.map .str)]))) :
    dIf (dAndT (dTest (dBin gEq (dVar 6) (dC (.int 1)))) (dTest (dBin (gI fun i j => .bl (decide (j < i))) (dCall gLen (dCons (dVar 5) dNil)) (dC (.int 1))))) (dDrop (dCellM cPop (dVar 5) (dCons (dOp S_take (dCons (dVar 0) (dCons (dCall gLen (dCons (dVar 5) dNil)) (dNil)))) dNil))) (dNext) De [some (.ref 0), a1, some (.lst (W.map .str)), a3, a4, some (.ref (ρ.length + 1)), some (.int pl), a7] (O c (ρ ++ [.lst (ns.map .str)])) := by
  simp only [dIf, dAndT, dTest, dBin, dC, dVar, List.getElem?_cons_zero, List.getElem?_cons_succ, gEq, deq_int]
  refine ⟨deqOk_int _ _ _, ?_⟩
  have n6 := hn.l6
  by_cases h0 : pl = 1
  · rw [decide_eq_true h0]
    simp only [cond_true, dCall, dCons, dNil, dVar, List.getElem?_cons_zero, List.getElem?_cons_succ, gLen, lkO, gI, List.length_map]
    by_cases h6 : (1 : Int) < ns.length
    · rw [decide_eq_true h6]
      simp only [cond_true, dDrop, dCellM, dVar, List.getElem?_cons_zero, List.getElem?_cons_succ, get_a0, dCons, dNil, dOp, dCall, gLen, lkO, List.length_map]
      refine take_O hc (by omega) (by omega) fun c' t h1 t0 t1 => ?_
      rw [getO]
      dsimp only
      obtain ⟨y, e1, e2⟩ := pop_at (xs := ns.map D.str) t0 (by rw [List.length_map]; omega) (by rw [List.length_map]; omega)
      rw [e2]
      dsimp only
      rw [setO]
      have e3 : (ns.map D.str).eraseIdx t.toNat = (ns.eraseIdx t.toNat).map .str := by
        have hl : ∀ (l : List Str) (i : Nat), (l.map D.str).eraseIdx i = (l.eraseIdx i).map .str := by
          intro l
          induction l with
          | nil => intro i; rfl
          | cons x l ih => intro i; cases i with
            | zero => rfl
            | succ i => simp [ih]
        exact hl _ _
      rw [e3]
      have sub := List.eraseIdx_sublist ns t.toNat
      refine k c' _ h1 ⟨sub.nodup hn.nd, ?_, Nat.le_trans sub.length_le n6, fun x hx => hn.ok x (sub.subset hx)⟩ fun x hx => hs x (sub.subset hx)
      rw [List.length_eraseIdx]
      split <;> omega
    · rw [decide_eq_false h6]
      exact k c ns (by omega) hn hs
  · rw [decide_eq_false h0]
    exact k c ns (by omega) hn hs
end
end DV
/-! min and max of ints, list.index, d.get(k, x), dict comprehensions, global tuples of texts. -/
namespace DV
open PySem PySem.Spec PyProof.Rows L2
/-! {k: v for x in xs} -/
end DV
namespace DV
open PySem PySem.Spec PyProof.Rows L2
/-! What a table is worth. -/
/-! opposite -/
/-! lines -/
def S_T_lines (C : Cs) : DSp := fun ds μ Q _ => ∃ g, ds = [tabD C g] ∧ Q (rowsD g) μ
def t_T_lines (C : Cs) : DTS := dRet (dFld C.T "rows" (dVar 0))
theorem rd_T_lines {C : Cs} {n1 : Str} : ∀ ds μ Q E, S_T_lines C ds μ Q E → t_T_lines C (dFn μ Q E) (start0 [n1] ds) μ := by
  rintro _ μ Q E ⟨g, rfl, q⟩
  unfold t_T_lines
  simp only [dRet, dFld, dVar, start0, List.map_cons, List.map_nil, List.length_cons, List.length_nil, List.replicate, Nat.sub_self, List.append_nil, List.getElem?_cons_zero, lk, tabD, look_rows]
  exact ⟨by first | rfl | trivial, FnEnd.here q⟩
/-! worth -/
/-! the first line -/
end DV
namespace DV
open PySem PySem.Spec PyProof.Rows L2
/-! Plain facts of worth. -/
end DV
/-! Class methods, and a class called through a variable. -/
namespace DV
open PySem PySem.Spec PyProof.Rows L2 ClX
section
variable {X : Cx} {W : WX} {o e : Expr} {es : List Expr} {m x : Str} {p pos apos : Pos} {fo : DTE} {fr : DTA} {C g pr : Addr} {mc : Value} {k : Nat} {fd : FuncData} {ps : List Str} {S : DSp}
/-- C.m(..), m a classmethod: cls is the class -/
def dCMeth (C : Addr) (S : DSp) (fo : DTE) (fr : DTA) : DTE := fun Γ μ Q E => fo Γ μ (fun d μ1 => d = .cls C ∧ fr Γ μ1 (fun vs μ2 => S (.cls C :: vs) μ2 Q E) E) E
theorem de_cmeth {pl : Sem Bool} (r : CRead X.K C mc) (c : CMet X.K C mc m pr g) (F : FnOk X.prog X.w X.K X.mg X.base (L2.CX X.prog X.w) k g fd ps (spOf X.K S)) (hr : Room k X.A) (hb : Binds X.K fd ps []) (tk : Takes X W) (he : DE X W o fo) (ha : DA X W (e :: es) fr)
    (hst : starEach (e :: es) X.env = (false, eval e X.env) :: starEach es X.env := by rfl) (hpl : (backTo pos (starEach es X.env)).any (·.1) = false := by rfl)
    (ht : eval (.Call (.Attribute o m apos) (e :: es) [] pos) X.env = (do let ov ← eval o X.env; standAt apos.atName; let (f, first) ← holding [ov] (getMethod ov m pl); callWith pos f first (backTo pos (starEach (e :: es) X.env)) (backToKw pos (keywordEach [] X.env))) := by rfl) :
    DE X W (.Call (.Attribute o m apos) (e :: es) [] pos) (dCMeth C S fo fr) := by
  refine ⟨fun pins s σ H Q I ⟨n, Γ, μ, Qd, Ed, hH, sr, gr, h, hq, hx⟩ => ?_⟩
  subst hH
  have FR := FnOk.raw F hb .nil
  let R : V → Hp → Prop := fun v H1 => ∃ n1 d μ1, n1.H = H1 ∧ SR0 X.K n1 μ1 ∧ Rep X.K n1.Hb n1.al v d ∧ Step n n1 ∧ d = .cls C ∧ fr Γ μ1 (fun vs μ2 => S (.cls C :: vs) μ2 Qd Ed) Ed
  refine PySem.W.methodCall_KW (pl := pl) (thn (he.run pins s σ n.H R I (lift_go sr gr h (fun n1 v d μ1 s1 r1 p1 q1 => ⟨n1, d, μ1, rfl, r1, p1, s1, q1⟩) hx)) ?_) ht
  rintro u s1 ⟨v, H1, I1, rv, n1, d, μ1, rfl, r1, p1, s1', rfl, q1⟩
  cases p1
  cases rv
  refine getmethcm_ok I1 r c fun s2 I2 => ?_
  refine callwith_cm I2 (base_none I1 (Nat.le_refl _)) c.fi (thn (ha.run pos _ s2 σ n1.H (fun vs H2 => spOf X.K S (.ref C :: vs) H2 Q (WE W σ)) I2 (liftA_go r1 (gr.step s1') q1 (fun n2 vs ds μ2 s2 r2 p2 q2 => ?_) (hx.step s1'))) fun us s3 ⟨vs, H2, I3, rv, q2⟩ => ⟨⟨pin_at I3, I3.kIn⟩, ?_⟩) hst hpl
  · exact ⟨n2, .cls C :: ds, μ2, Qd, Ed, rfl, r2, .cons (.cls C) p2, q2, LV.step hq (s1'.trans s2), (hx.step s1').step s2⟩
  · have q3 : spOf X.K S ((.ref C :: vs) ++ []) H2 Q (WE W σ) := by simpa using q2
    have rr : Vals (V.ref C :: vs) (Value.ref C :: us) := .cons rfl rv
    refine thn (Q := EP X ((s1.heap.objs.size, PySem.W.methodObj (.ref g) (.ref C)) :: pins) σ Q) (wpAny_call (PySem.W.method_call (pin_at I3) (codeAny_mono (FR X.A X.stack s3 H2 (.ref C :: us) (.ref C :: vs) Q (WE W σ) hr I3.env0 rr q3) fun res s' hq' => ?_))) fun _ _ y => unpinE y
    match res, hq' with
    | .error e, hq' => exact passAt tk σ _ _ _ e s' I3 hq'
    | .ok (.ret u), hq' => exact I3.after hq'
/-- x(..) where the variable x is the class -/
theorem de_makeV {fI : Addr} {i : Nat} (M : Mk X.K C fI) (F : FnOk X.prog X.w X.K X.mg X.base (L2.CX X.prog X.w) k fI fd ps (spOf X.K S)) (hr : Room (k + 1) X.A) (hi : PE X (.Name x p) (tVar i)) (hb : Binds X.K fd ps []) (tk : Takes X W) (ha : DA X W (e :: es) fr)
    (he : starEach (e :: es) X.env = (false, eval e X.env) :: starEach es X.env := by rfl) (hpl : (backTo pos (starEach es X.env)).any (·.1) = false := by rfl) : DE X W (.Call (.Name x p) (e :: es) [] pos) (fun Γ μ Q E => Γ[i]? = some (some (.cls C)) ∧ dMakeM C S fr Γ μ Q E) := by
  refine ⟨fun pins s σ H Q I ⟨n, Γ, μ, Qd, Ed, hH, sr, gr, ⟨hc, h⟩, hq, hx⟩ => ?_⟩
  subst hH
  refine wpAny_Call_Name_kw ?_
  obtain ⟨v, hv, rv⟩ := gr.at_ i _ hc
  cases rv
  refine thn (hi.run pins s σ n.H (fun x H1 => x = .ref C ∧ H1 = n.H) I ⟨_, hv, rfl, rfl⟩) ?_
  rintro u s0 ⟨x, H1, I0, rx, rfl, rfl⟩
  cases rx
  let R : List V → Hp → Prop := fun vs H1 => ∃ n1 ds μ1, n1.H = H1 ∧ SR0 X.K n1 μ1 ∧ Reps X.K n1.Hb n1.al vs ds ∧ LV X.K n1 Qd Q ∧ (∀ n' cls dd x μ', Step n1 n' → SR0 X.K n' μ' → ExR X.K n1 n' cls dd x → Ed x μ' → W cls dd σ n'.H) ∧
    S (.ref μ1.length :: ds) (μ1 ++ [.ins C []]) (fun r μ2 => r = .non ∧ ∃ e loc μ3, μ2 = μ3 ++ loc ∧ Upd μ1 μ3 ∧ Fz μ3.length (μ3 ++ loc) (.ref μ1.length) e ∧ Qd e μ3) (fun x μ2 => ∃ loc μ3, μ2 = μ3 ++ loc ∧ Upd μ1 μ3 ∧ D.puF x.fs = true ∧ Ed x μ3)
  refine PySem.W.callWith_K (h₀ := X.base) I0.ok.mod.kin M.kp (thn (ha.run pos pins s0 σ n.H R I0 (liftA_go sr gr h (fun n1 vs ds μ1 s1 r1 p1 q1 => ⟨n1, ds, μ1, rfl, r1, p1, LV.step hq s1, hx.step s1, q1⟩) hx)) ?_) he hpl
  rintro us s1 ⟨vs, H1, I1, r, n1, ds, μ1, rfl, r1, p1, hq1, hx1, q1⟩
  refine ⟨I1.kIn, ?_⟩
  have hl : us.length + 1 = ps.length := by
    have nx : n1.H (s1.heap.objs.size + 1) = none := I1.hok.fresh (Nat.le_succ _)
    have nd : n1.H s1.heap.objs.size = none := I1.hok.fresh (Nat.le_refl _)
    have := F.len _ _ _ _ (make_goM (C := C) (S := S) (E := WE W σ) r1 p1 q1 hq1 hx1 _ _ nx nd (Nat.ne_of_lt (Nat.lt_succ_self _)))
    rw [← this, List.length_cons, r.length]
  refine run_makeM (ws := us) M F hr (fun s' a hk => ?_) tk I1 r r1 p1 q1 hq1 hx1
  have := hb s' (.ref a :: us) hk (by simpa using hl)
  rwa [List.append_nil] at this
end
end DV
/-! Class methods and global tuples of texts: the head's facts, the rules. -/
namespace DV
open PySem PySem.Spec PyProof.Rows L2 ClX
def cmB (C m : Str) (K : PySem.W.Frag) : Bool := PySem.W.readsIn K (He.ga K C) (.type "type") && (He.eqO (PySem.W.specialIn K (.ref (He.ga K C)) "__getattribute__") (some (some (.builtin "type.__getattribute__"))) &&
  ((match PySem.W.findCls K (.ref (He.ga K C)) (.type "type") m with
    | some (.get (.builtin b) (.ref q) .none (.ref c)) => decide (b = "classmethod.__get__") && (decide (q = propA K (He.ga K C) m) && decide (c = He.ga K C))
    | _ => false) && ((match PySem.W.recIn K (propA K (He.ga K C) m) "property", PySem.W.recIn K (propA K (He.ga K C) m) "classmethod" with
    | none, some (.ref _ :: _) => true
    | _, _ => false) && PySem.W.fnIn K ((At.prop C m).ad K))))
theorem cmB_ok {C m : Str} {K : PySem.W.Frag} (h : cmB C m K = true) : CRead K (He.ga K C) (.type "type") ∧ CMet K (He.ga K C) (.type "type") m (propA K (He.ga K C) m) ((At.prop C m).ad K) := by
  obtain ⟨h1, h⟩ := He.ba h
  obtain ⟨h2, h⟩ := He.ba h
  obtain ⟨h3, h⟩ := He.ba h
  obtain ⟨h4, h5⟩ := He.ba h
  refine ⟨⟨h1, He.eqO_ok h2⟩, ?_, ?_, h5⟩
  · split at h3
    · rename_i b q c e
      obtain ⟨e1, h3⟩ := He.ba h3
      obtain ⟨e2, e3⟩ := He.ba h3
      rw [e, of_decide_eq_true e1, of_decide_eq_true e2, of_decide_eq_true e3]
    · cases h3
  · show ∃ rest, PySem.W.recIn K (propA K (He.ga K C) m) "classmethod" = some (.ref (getA K (propA K (He.ga K C) m)) :: rest)
    unfold getA
    split at h4
    · rename_i g rest e1 e2
      rw [e1, e2]
      exact ⟨rest, rfl⟩
    · cases h4
/-- a classmethod as callers see it -/
def HasC (P : Program) (w : World) (K : PySem.W.Frag) (mg : Str → Option Value) (base : Heap) (C : Addr) (m : Str) (k : Nat) (ps : List Str) (S : DSp) : Prop :=
  ∃ (pr : Addr) (mc : Value) (f : Addr) (fd : FuncData), CRead K C mc ∧ CMet K C mc m pr f ∧ Binds K fd ps [] ∧ FnOk P w K mg base (L2.CX P w) k f fd ps (spOf K S)
section
variable {X : Cx} {W : WX} {o e : Expr} {es : List Expr} {m x : Str} {p pos apos : Pos} {fo : DTE} {fr : DTA} {C : Addr} {k : Nat} {ps : List Str} {S : DSp}
theorem de_cmethH {pl : Sem Bool} (h : HasC X.prog X.w X.K X.mg X.base C m k ps S) (hr : Room k X.A) (tk : Takes X W) (he : DE X W o fo) (ha : DA X W (e :: es) fr)
    (hst : starEach (e :: es) X.env = (false, eval e X.env) :: starEach es X.env := by rfl) (hpl : (backTo pos (starEach es X.env)).any (·.1) = false := by rfl)
    (ht : eval (.Call (.Attribute o m apos) (e :: es) [] pos) X.env = (do let ov ← eval o X.env; standAt apos.atName; let (f, first) ← holding [ov] (getMethod ov m pl); callWith pos f first (backTo pos (starEach (e :: es) X.env)) (backToKw pos (keywordEach [] X.env))) := by rfl) :
    DE X W (.Call (.Attribute o m apos) (e :: es) [] pos) (dCMeth C S fo fr) := by
  obtain ⟨pr, mc, f, fd, h1, h2, h3, h4⟩ := h
  exact de_cmeth h1 h2 h4 hr h3 tk he ha hst hpl ht
def dMakeV (i : Nat) (C : Addr) (S : DSp) (fr : DTA) : DTE := fun Γ μ Q E => Γ[i]? = some (some (.cls C)) ∧ dMakeM C S fr Γ μ Q E
theorem de_makeVH {i : Nat} {cx : Str} (h : HasI X.prog X.w X.K X.mg X.base C cx k ps S) (hr : Room (k + 1) X.A) (hi : PE X (.Name x p) (tVar i)) (tk : Takes X W) (ha : DA X W (e :: es) fr)
    (he : starEach (e :: es) X.env = (false, eval e X.env) :: starEach es X.env := by rfl) (hpl : (backTo pos (starEach es X.env)).any (·.1) = false := by rfl) : DE X W (.Call (.Name x p) (e :: es) [] pos) (dMakeV i C S fr) := by
  obtain ⟨f, fd, h1, h2, h3, h4⟩ := h
  exact de_makeV h2 h4 hr hi h3 tk ha he hpl
theorem de_cls (hg : Gl X x) (hm : X.mg x = some (.ref C)) (hd : (x == ("__debug__" : Str)) = false := by decide) : DE X W (.Name x p) (dC (.cls C)) := de_c (fun _ _ _ => .cls C) (pe_glob (v := .ref C) hg hm rfl hd)
end
/-! global tuples of texts -/
end DV
/-! == and != of data with dicts in it. -/
namespace DV
open PySem PySem.Spec PyProof.Rows L2
end DV
namespace PySem.SeqAt
open AutoSeq1 (wpAny_loadPart')
open MeetsSeq MeetsSeq2 MeetsSeq3 SeqRoads2
end PySem.SeqAt
namespace DV
open PySem PySem.Spec PyProof.Rows L2
open PySem.W (EqTree)
section
variable {X : Cx}
theorem zip_back {kvs : List (Key × D)} {us : List (Key × V)} (h : kvs.map (·.1) = us.map (·.1)) : kvs = (us.map (·.1)).zip (kvs.map (·.2)) := by
  rw [← h]
  clear h
  induction kvs with
  | nil => rfl
  | cons p r ih => rw [List.map_cons, List.map_cons, List.zip_cons_cons, ← ih]
variable {W : WX} {a b : Expr} {pos : Pos} {fa fb : DTE}
end
end DV
/-! == by an own __eq__ of a class. -/
namespace DV
open PySem PySem.Spec PyProof.Rows L2
def HasQ (P : Program) (w : World) (K : PySem.W.Frag) (mg : Str → Option Value) (base : Heap) (C : Addr) (k : Nat) (ps : List Str) (S : DSp) : Prop :=
  ∃ f fd, PySem.W.findIn K (.ref C) "__eq__" = some (some (.ref f)) ∧ PySem.W.isFn K (.ref f) = true ∧ Binds K fd ps [] ∧ FnOk P w K mg base (L2.CX P w) k f fd ps (spOf K S)
/-- the two are instances, and the own == is asked -/
def rOwnEq (K : PySem.W.Frag) (C : Addr) (S : DSp) : R2 := fun x y H Q => ∃ a b dx dy fs gs, x = .ref a ∧ y = .ref b ∧ H a = some (.ins C dx fs) ∧ H b = some (.ins C dy gs) ∧ spOf K S [x, y] H (fun v H' => (∃ c, v = .bl c) ∧ Q v H') (fun _ _ _ => False)
def gOwnEq (C : Addr) (S : DSp) : G2 := fun x y μ Q => insOf μ C x ∧ insOf μ C y ∧ S [x, y] μ (fun d μ' => (∃ c, d = .bl c) ∧ Q d μ') (fun _ _ => False)
theorem op_gOwnEq {K : PySem.W.Frag} {C : Addr} {S : DSp} : Op2 K (rOwnEq K C S) (gOwnEq C S) := fun n μ x y dx dy Qd Q s rx ry q l => by
  obtain ⟨h1, h2, h3⟩ := q
  obtain ⟨a, da, us, rfl, e1⟩ := insOf_at s rx h1
  obtain ⟨b, db, vs, rfl, e2⟩ := insOf_at s ry h2
  refine ⟨a, b, da, db, us, vs, rfl, rfl, e1, e2, n, [dx, dy], μ, _, _, rfl, s, .cons rx (.cons ry .nil), h3, ?_, fun _ _ _ _ _ _ _ _ z => z.elim⟩
  rintro n' v d μ' st sr rp ⟨⟨c, rfl⟩, qd⟩
  cases rp
  exact ⟨⟨c, rfl⟩, l n' _ _ μ' st sr (.bl c) qd⟩
section
variable {X : Cx} {W : WX} {a b : Expr} {pos : Pos} {fa fb : DTE} {C : Addr} {k : Nat} {ps : List Str} {S : DSp}
theorem op_ownEq (h : HasQ X.prog X.w X.K X.mg X.base C k ps S) (hr : Room k X.A) : OpR X (compareOp .Eq) (rOwnEq X.K C S) := by
  obtain ⟨f, fd, hs, hf, hb, F⟩ := h
  intro pins s σ H x y v u Q I rx ry hq
  obtain ⟨a, b, dx, dy, fs, gs, rfl, rfl, ha, hb', sp⟩ := hq
  cases rx
  cases ry
  obtain ⟨mA, J, _⟩ := ins_get I.hok ha
  obtain ⟨mB, J', _⟩ := ins_get I.hok hb'
  obtain ⟨od, J, _⟩ := J.look
  obtain ⟨od', J', _⟩ := J'.look
  obtain ⟨m, hF⟩ := I.fr
  show wpAny (model X.prog X.w) X.A (richCompare .Eq (.ref a) (.ref b)) (EP X pins σ Q) X.xe s
  refine PySem.W.cmp_K (op := .Eq) (tb := .ref C) hr.units0 hF I.ok.mod.kin J J'.type (by simp [PySem.W.notFirst]) hs hf ?_
  have hl := F.len _ _ _ _ sp
  have r2 : Vals [V.ref a, V.ref b] [Value.ref a, Value.ref b] := .cons rfl (.cons rfl .nil)
  refine wpAny_call (codeAny_mono (F.run X.A X.stack s H ⟨[.ref a, .ref b], []⟩ [.ref a, .ref b] [.ref a, .ref b] _ _ hr I.env0 (by
    have := hb s [.ref a, .ref b] I.kIn (by simpa using hl)
    simpa using this) r2 sp) fun r s' hq => ?_)
  match r, hq with
  | .error e, hq =>
    obtain ⟨_, _, _, _, _, _, _, _, _, _, _, _, z⟩ := hq
    exact z.elim
  | .ok (.ret w), hq =>
    obtain ⟨z, H', I', rz, ⟨c, rfl⟩, q⟩ := I.after hq
    cases rz
    exact ⟨.bl c, H', I', rfl, q⟩
def dOwnEq (C : Addr) (S : DSp) (fa fb : DTE) : DTE := dBin (gOwnEq C S) fa fb
theorem de_ownEqH (h : HasQ X.prog X.w X.K X.mg X.base C k ps S) (hr : Room k X.A) (ha : DE X W a fa) (hb : DE X W b fb) : DE X W (.Compare a [.Eq] [b] pos) (dOwnEq C S fa fb) := de_cmp (op_ownEq h hr) op_gOwnEq ha hb (nomark _)
end
end DV
local macro_rules | `(tactic| walk_at "dv") => `(tactic| try simp only [DV.dSeq, DV.dIf, DV.dOrT, DV.dAndT, DV.dNotT, DV.dTest, DV.dChain, DV.dC, DV.dCall, DV.gLen, DV.dCons, DV.dVar, DV.dNil, DV.dBin, DV.dUn, DV.gNeg, DV.gIn, DV.gIx, DV.dRet, DV.dRetN, DV.dNext, DV.dFor, DV.dIter, DV.dName, DV.lk, DV.dAsg, DV.dDrop, DV.gLst, DV.gTup, DV.gLstM, DV.gAdd, DV.gI, DV.gMod, DV.gMul, DV.gFdiv, DV.gPow, DV.gAbs, DV.gInt, DV.gList, DV.gTuple, DV.dOp, DV.dOpK, DV.dIsi, DV.tyD, DV.gIs, DV.gIsNot, DV.D.isN, DV.dJoin, DV.dCellM, DV.dSetI, DV.dSlice, DV.dPart, DV.dNoPart, DV.dRevA, DV.dFin, DV.dAugI, DV.dComp, DV.wipeG, DV.cName, DV.cPair, DV.dYes, DV.dRange1, DV.dRange2, DV.dAnd, DV.dOr, DV.dNot, DV.dIfE, DV.gEq, DV.gNe, DV.sgn_one, DV.atI_zero, DV.dTruth, DV.truD, DV.dBreak, DV.dCont, DV.gSorted, DV.dSortK, DV.dRevT, DV.gInD, DV.gIsB, DV.gStr, DV.dPop0, DV.dDict, DV.dPairs, DV.keysD, DV.keyOfD, DV.dFinD, DV.dFld, DV.dSetF, DV.dMake, DV.dMethod, DV.dProp, DV.dOwnIx, DV.dNever, DV.dRaise, DV.dRaise0, DV.gMulM, DV.gAddM, DV.gMax2, DV.dPair, DV.gDGet, DV.dSetD, DV.dDict0, DV.dComp2, DV.dSortSC, DV.isIns, DV.insOf,
  List.getElem?_cons_zero, List.getElem?_cons_succ, List.set_cons_zero, List.set_cons_succ, List.map_cons, List.map_nil, List.length_cons, List.length_nil, List.replicate, Nat.sub_self, List.append_nil, List.cons_append, List.nil_append, DV.start0, if_true, if_false, Bool.not_true, Bool.not_false, Bool.false_eq_true, Bool.true_and, Bool.and_true, Bool.or_true, Bool.true_or, Bool.false_or, Bool.or_false, eq_self_iff_true, not_true_eq_false, not_false_eq_true, ite_true, ite_false, cond_true, cond_false])
namespace DV
open PySem PySem.Spec PyProof.Rows L2
theorem sz2 {a b : D} : [a, b].length ≤ sizeLine := by rw [sizeLine_eq]; simp
end DV
namespace DV
open PySem PySem.Spec PyProof.Rows L2
theorem hnd_hit {ks : List EK} {k : EK} {fs : List (Str × D)} {o : Option Nat} {su : Addr → Addr → Nat → DTS} {r : List DCl} {Dd : DEnds} {Γ : Gam} {μ : Mu} (h1 : k ∈ ks) (h : dIn ⟨k, o, su⟩ Dd ⟨k, fs⟩ Γ μ) : dHandle ks (⟨k, o, su⟩ :: r) Dd ⟨k, fs⟩ Γ μ := ⟨h1, h1, by rw [if_pos rfl]; exact h⟩
theorem hnd_miss {ks : List EK} {k k' : EK} {fs : List (Str × D)} {o : Option Nat} {su : Addr → Addr → Nat → DTS} {r : List DCl} {Dd : DEnds} {Γ : Gam} {μ : Mu} (h1 : k ∈ ks) (h2 : k' ∈ ks) (ne : k ≠ k') (h : dHandle ks r Dd ⟨k, fs⟩ Γ μ) : dHandle ks (⟨k', o, su⟩ :: r) Dd ⟨k, fs⟩ Γ μ := ⟨h1, h2, by rw [if_neg ne]; exact h⟩
end DV
local macro_rules | `(tactic| walk_at "dv") => `(tactic| try simp only [DV.dSeq, DV.dIf, DV.dOrT, DV.dAndT, DV.dNotT, DV.dTest, DV.dChain, DV.dC, DV.dCall, DV.gLen, DV.dCons, DV.dVar, DV.dNil, DV.dBin, DV.dUn, DV.gNeg, DV.gIn, DV.gIx, DV.dRet, DV.dRetN, DV.dNext, DV.dFor, DV.dIter, DV.dName, DV.lk, DV.dAsg, DV.dDrop, DV.gLst, DV.gTup, DV.gLstM, DV.gAdd, DV.gI, DV.gMod, DV.gMul, DV.gFdiv, DV.gPow, DV.gAbs, DV.gInt, DV.gList, DV.gTuple, DV.dOp, DV.dOpK, DV.dIsi, DV.tyD, DV.gIs, DV.gIsNot, DV.D.isN, DV.dJoin, DV.dCellM, DV.dSetI, DV.dSlice, DV.dPart, DV.dNoPart, DV.dRevA, DV.dFin, DV.dAugI, DV.dComp, DV.wipeG, DV.cName, DV.cPair, DV.dYes, DV.dRange1, DV.dRange2, DV.dAnd, DV.dOr, DV.dNot, DV.dIfE, DV.gEq, DV.gNe, DV.sgn_one, DV.atI_zero, DV.dTruth, DV.truD, DV.dBreak, DV.dCont, DV.gSorted, DV.dSortK, DV.dRevT, DV.gInD, DV.gIsB, DV.gStr, DV.dPop0, DV.dDict, DV.dPairs, DV.keysD, DV.keyOfD, DV.dFinD, DV.dFld, DV.dSetF, DV.dMake, DV.dMethod, DV.dProp, DV.dOwnIx, DV.dNever, DV.gMulM, DV.gAddM, DV.gMax2, DV.dPair, DV.gDGet, DV.dSetD, DV.dDict0, DV.dComp2, DV.dSortSC, DV.isIns, DV.insOf,
  List.getElem?_cons_zero, List.getElem?_cons_succ, List.set_cons_zero, List.set_cons_succ, List.map_cons, List.map_nil, List.length_cons, List.length_nil, List.replicate, Nat.sub_self, List.append_nil, List.cons_append, List.nil_append, DV.start0, if_true, if_false, Bool.not_true, Bool.not_false, Bool.false_eq_true, Bool.true_and, Bool.and_true, Bool.or_true, Bool.true_or, Bool.false_or, Bool.or_false, eq_self_iff_true, not_true_eq_false, not_false_eq_true, ite_true, ite_false, cond_true, cond_false])
namespace DV
open PySem PySem.Spec PyProof.Rows L2
/-! Wishes.ranked, only, amounts, ==. -/
/-! ranked, of one rank -/
/-! amounts -/
/-! only -/
/-! == -/
/-! gap_wishes -/
end DV
local macro_rules | `(tactic| walk_at "dv") => `(tactic| try simp only [DV.dSeq, DV.dIf, DV.dOrT, DV.dAndT, DV.dNotT, DV.dTest, DV.dChain, DV.dC, DV.dCall, DV.gLen, DV.dCons, DV.dVar, DV.dNil, DV.dBin, DV.dUn, DV.gNeg, DV.gIn, DV.gIx, DV.dRet, DV.dRetN, DV.dNext, DV.dFor, DV.dIter, DV.dName, DV.lk, DV.dAsg, DV.dDrop, DV.gLst, DV.gTup, DV.gLstM, DV.gAdd, DV.gI, DV.gMod, DV.gMul, DV.gFdiv, DV.gPow, DV.gAbs, DV.gInt, DV.gList, DV.gTuple, DV.dOp, DV.dOpK, DV.dIsi, DV.tyD, DV.gIs, DV.gIsNot, DV.D.isN, DV.dJoin, DV.dCellM, DV.dSetI, DV.dSlice, DV.dPart, DV.dNoPart, DV.dRevA, DV.dFin, DV.dAugI, DV.dComp, DV.wipeG, DV.cName, DV.cPair, DV.dYes, DV.dRange1, DV.dRange2, DV.dAnd, DV.dOr, DV.dNot, DV.dIfE, DV.gEq, DV.gNe, DV.sgn_one, DV.atI_zero, DV.dTruth, DV.truD, DV.dBreak, DV.dCont, DV.gSorted, DV.dSortK, DV.dRevT, DV.gInD, DV.gIsB, DV.gStr, DV.dPop0, DV.dDict, DV.dPairs, DV.keysD, DV.keyOfD, DV.dFinD, DV.dFld, DV.dSetF, DV.dMake, DV.dMethod, DV.dProp, DV.dOwnIx, DV.dNever, DV.dRaise, DV.dRaise0, DV.gMulM, DV.gAddM, DV.gMax2, DV.dPair, DV.gDGet, DV.dSetD, DV.dDict0, DV.dComp2, DV.dSortSC, DV.isIns, DV.insOf,
  List.getElem?_cons_zero, List.getElem?_cons_succ, List.set_cons_zero, List.set_cons_succ, List.map_cons, List.map_nil, List.length_cons, List.length_nil, List.replicate, Nat.sub_self, List.append_nil, List.cons_append, List.nil_append, DV.start0, if_true, if_false, Bool.not_true, Bool.not_false, Bool.false_eq_true, Bool.true_and, Bool.and_true, Bool.or_true, Bool.true_or, Bool.false_or, Bool.or_false, eq_self_iff_true, not_true_eq_false, not_false_eq_true, ite_true, ite_false, cond_true, cond_false])
namespace DV
open PySem PySem.Spec PyProof.Rows L2
/-! sets of a list's or a tuple's items -/
/-! the law's own look at a table: what it holds, its lines -/
def t_l_held : DTS := dSeq (dAsg (dCall gLst (dNil)) (dName 1)) (dSeq (dFor (dIter (dVar 0)) (dName 2) (dAsg (dBin gAdd (dVar 1) (dComp true [3] (dIter (dVar 2)) (cName 3) (dTest (dBin (gIn true) (dVar 3) (dVar 1))) (dVar 3))) (dName 1))) (dRet (dCall (gSortSet true) (dCons (dVar 1) dNil))))
def heldTo : List (List Str) → List Str → List Str
  | [], f => f
  | r :: g, f => heldTo g (f ++ r.filter fun x => decide (x ∉ f))
theorem held_mem {x : Str} : ∀ {g : List (List Str)} {f : List Str}, x ∈ heldTo g f ↔ x ∈ f ∨ ∃ r ∈ g, x ∈ r
  | [], f => by simp [heldTo]
  | r :: g, f => by
    rw [heldTo, held_mem, List.mem_append, List.mem_filter]
    constructor
    · rintro ((h | ⟨h, _⟩) | ⟨s, hs, h⟩)
      · exact .inl h
      · exact .inr ⟨r, by simp, h⟩
      · exact .inr ⟨s, by simp [hs], h⟩
    · rintro (h | ⟨s, hs, h⟩)
      · exact .inl (.inl h)
      · rcases List.mem_cons.mp hs with rfl | hs
        · by_cases z : x ∈ f
          · exact .inl (.inl z)
          · exact .inl (.inr ⟨h, by simpa using z⟩)
        · exact .inr ⟨s, hs, h⟩
theorem held_outs {g : List (List Str)} : sortS ((heldTo g []).foldl addS []) = outs g := by
  unfold outs
  refine sortS_eq ((List.perm_ext_iff_of_nodup (fold_nodup List.nodup_nil) (fold_nodup List.nodup_nil)).mpr fun x => ?_)
  rw [fold_mem, fold_mem, held_mem]
  simp [List.mem_flatten]
theorem held_snoc : ∀ (g : List (List Str)) (f : List Str) (r : List Str), heldTo (g ++ [r]) f = heldTo g f ++ r.filter fun x => decide (x ∉ heldTo g f)
  | [], f, r => rfl
  | s :: g, f, r => by rw [List.cons_append, heldTo, heldTo, held_snoc]
theorem held_len {w : Nat} : ∀ (g : List (List Str)) (f : List Str), (∀ r ∈ g, r.length ≤ w) → (heldTo g f).length ≤ f.length + g.length * w
  | [], f, _ => by simp [heldTo]
  | r :: g, f, h => by
    rw [heldTo]
    have := held_len g (f ++ r.filter fun x => decide (x ∉ f)) fun s hs => h s (by simp [hs])
    have h1 := h r (by simp)
    have h2 := List.length_filter_le (fun x => decide (x ∉ f)) r
    rw [List.length_append] at this
    rw [List.length_cons, Nat.add_mul]
    omega
/-- [word for word in row if word not in found] -/
theorem comp_notin {v : Nat} {Γ : Gam} {μ : Mu} {Q : List D → Mu → Prop} {s w : List Str} {d : D} (fb : DTE) (hl : s.length ≤ 1000) (hv : v < Γ.length) (hw : lk μ d = tupS w ∨ lk μ d = .lst (w.map .str)) (hb : ∀ x Q' E', fb (Γ.set v x) μ Q' E' = Q' d μ) (q : Q ((s.filter fun x => decide (x ∉ w)).map .str) μ) :
    dCompL none (cName v) (dTest (dBin (gIn true) (dVar v) fb)) (dVar v) Γ (s.map .str) [] μ Q := by
  refine comp_pure (src := none) (fun x => match x with | .str t => decide (t ∉ w) | _ => false) id trivial _ [] (fun x hx K1 K2 k => ?_) (by simp only [List.length_map, List.length_nil, sizeLine_eq]; omega) ?_
  · obtain ⟨t, ht, rfl⟩ := List.mem_map.mp hx
    simp only [cName, dTest, dBin, dVar]
    rw [List.getElem?_set_self hv]
    dsimp only
    rw [hb]
    have e : gIn true (.str t) d μ = fun Q => (D.flat (.str t) = true ∧ (w.map D.str).all D.flat = true) ∧ Q (.bl (!inF (.str t) (w.map D.str))) μ := by
      funext Q; rcases hw with h | h <;> simp [gIn, h, tupS]
    rw [e]
    refine ⟨⟨rfl, flat_strs' w⟩, ?_⟩
    rw [inF_strs, show (!decide (t ∈ w)) = decide (t ∉ w) from by by_cases h : t ∈ w <;> simp [h]]
    exact k
  · rw [List.nil_append, List.map_id, List.filter_map]
    exact q
end DV
namespace DV
open PySem PySem.Spec PyProof.Rows L2
/-! the order of sets, and least sets -/
def Sub (v w : List Str) : Prop := ∀ x ∈ v, x ∈ w
def subB (v w : List Str) : Bool := v.all fun x => decide (x ∈ w)
/-- those that are wanted and in which no earlier one lies -/
def keepL (ok : List Str → Bool) : List (List Str) → List (List Str) → List (List Str)
  | [], acc => acc
  | w :: M, acc => keepL ok M (if ok w && !acc.any (fun v => subB v w) then acc ++ [w] else acc)
end DV
/-! xs.clear() -/
namespace DV
open PySem PySem.Spec PyProof.Rows L2
end DV
namespace DV
open PySem PySem.Spec PyProof.Rows L2
/-! stops, is_firm, the law's own gap -/
end DV
namespace DV
open PySem PySem.Spec PyProof.Rows L2
/-! lines, their sets, least sets -/
/-! the law's own least sets -/
end DV
/-! != by an own __eq__ of a class that has no own __ne__. -/
namespace DV
open PySem PySem.Spec PyProof.Rows L2 PySem.W Builtin
end DV
/-! a | b, a & b, ~a by an own method of the class of both. -/
namespace PySem.W
open Lean Elab Tactic Meta PySem PySem.Calls PyProof.Rows
end PySem.W
namespace DV
open PySem PySem.Spec PyProof.Rows L2
end DV
/-! list(range(n)). -/
namespace DV
open PySem PySem.Spec PyProof.Rows L2
end DV
/-! sorted(x), x a list or a tuple. -/
namespace PySem.W
open PySem PySem.Spec PyProof.Rows PySem.Calls
end PySem.W
namespace DV
open PySem PySem.Spec PyProof.Rows L2
end DV
namespace DV
open PySem PySem.Spec PyProof.Rows L2
/-! powers: families of sets as monotone predicates -/
def kp (P : List Str) (ok : List Str → Bool) : List (List Str) := keepL ok (setsS P) []
/-! the other side -/
def joinL (P : List Str) (F1 F2 : List (List Str)) : List (List Str) := F1.flatMap fun f => F2.map fun h => P.filter fun x => decide (x ∈ f ∨ x ∈ h)
/-! the program's -/
end DV
namespace DV
open PySem PySem.Spec PyProof.Rows L2
end DV
/-! == of a dict and a value of another kind. -/
namespace DV
open PySem PySem.Spec PyProof.Rows PySem.Calls PyProof.V Builtin SeqAt
section
variable {prog : Program} {w : World} {A : Around} {E : Value → Shared → Prop} {s : Shared}
def IsDct (h : Heap) (a : Addr) : Prop := ∃ o es ep, h.get? a = some o ∧ o.cls = .type "dict" ∧ o.data = .dict es ep
theorem IsDct.ty {a : Addr} (x : IsDct s.heap a) : s.TypeIs (.ref a) "dict" := let ⟨o, _, _, ho, hc, _⟩ := x; ⟨o, ho, hc⟩
end
end DV
/-! == of any data, looking through cells; values of unlike kinds and lengths. -/
namespace DV
open PySem PySem.Spec PyProof.Rows L2
open PySem.W (EqTree)
inductive Frs (R : V → D → Prop) : List V → List D → Prop
  | nil : Frs R [] []
  | cons {v : V} {d : D} {vs : List V} {ds : List D} : R v d → Frs R vs ds → Frs R (v :: vs) (d :: ds)
section
variable {R : V → D → Prop}
theorem Frs.length : ∀ {vs : List V} {ds : List D}, Frs R vs ds → vs.length = ds.length
  | _, _, .nil => rfl
  | _, _, .cons _ t => by simp [Frs.length t]
theorem Frs.get : ∀ {vs : List V} {ds : List D} {i : Nat} {d : D}, Frs R vs ds → ds[i]? = some d → ∃ v, vs[i]? = some v ∧ R v d
  | _, _, _, _, .nil, e => by simp at e
  | _, _, 0, _, .cons h _, e => by simp at e; subst e; exact ⟨_, rfl, h⟩
  | _, _, i + 1, d, .cons _ t, e => by
    obtain ⟨v, h1, h2⟩ := Frs.get t (i := i) (d := d) (by simpa using e)
    exact ⟨v, by simpa using h1, h2⟩
theorem Frs.mono {R' : V → D → Prop} (f : ∀ v d, R v d → R' v d) : ∀ {vs : List V} {ds : List D}, Frs R vs ds → Frs R' vs ds
  | _, _, .nil => .nil
  | _, _, .cons h t => .cons (f _ _ h) (Frs.mono f t)
theorem Frs.fun_ (f : ∀ v d e, R v d → R v e → d = e) : ∀ {vs : List V} {ds es : List D}, Frs R vs ds → Frs R vs es → ds = es
  | _, _, _, .nil, .nil => rfl
  | _, _, _, .cons h t, .cons h' t' => by rw [f _ _ _ h h', Frs.fun_ f t t']
end
def Fr (K : PySem.W.Frag) (H : Hp) : Nat → V → D → Prop
  | 0, v, d => match d with
    | .non => v = .non
    | .bl b => v = .bl b
    | .int i => v = .int i
    | .str z => v = .str z
    | _ => False
  | k + 1, v, d => match d with
    | .non => v = .non
    | .bl b => v = .bl b
    | .int i => v = .int i
    | .str z => v = .str z
    | .lst ds => ∃ a vs, v = .ref a ∧ H a = some (.lst vs) ∧ Frs (Fr K H k) vs ds
    | .tup ds => ∃ a vs, v = .ref a ∧ H a = some (.tup vs) ∧ Frs (Fr K H k) vs ds
    | .dct kvs => ∃ a us, v = .ref a ∧ Rd H a (.dK us) ∧ kvs.map (·.1) = us.map (·.1) ∧ Frs (Fr K H k) (us.map (·.2)) (kvs.map (·.2))
    | _ => False
def frz (μ : Mu) : Nat → D → D
  | 0, d => d
  | k + 1, d => match lk μ d with
    | .lst ds => .lst (ds.map (frz μ k))
    | .tup ds => .tup (ds.map (frz μ k))
    | .dct kvs => .dct (kvs.map fun p => (p.1, frz μ k p.2))
    | e => e
theorem rd_fun {H : Hp} {a : Addr} {us us' : List (Key × V)} (h : Rd H a (.dK us)) (h' : Rd H a (.dK us')) : us = us' := rd_inj h h'
theorem Fr.fun_ {K : PySem.W.Frag} {H : Hp} : ∀ (k : Nat) (v : V) (d e : D), Fr K H k v d → Fr K H k v e → d = e := by
  intro k
  induction k with
  | zero =>
    intro v d e h1 h2
    unfold Fr at h1 h2
    cases d <;> cases e <;> simp only at h1 h2 <;> first | exact h1.elim | exact h2.elim | (subst h1; cases h2; done) | (subst h1; cases h2; rfl)
  | succ k ih =>
    intro v d e h1 h2
    unfold Fr at h1 h2
    have inj : ∀ {a a' : Addr} {o o' : HO}, V.ref a = V.ref a' → H a = some o → H a' = some o' → o = o' := fun e h h' => by cases e; rw [h] at h'; cases h'; rfl
    have nrd : ∀ {a a' : Addr} {o : HO} {us : List (Key × V)}, V.ref a = V.ref a' → H a = some o → Rd H a' (.dK us) → (∀ x y, o ≠ .frz x y) → o = .dK us := fun e h h' hn => by
      cases e
      rcases h' with h' | ⟨o', h'⟩
      · rw [h] at h'; cases h'; rfl
      · rw [h] at h'; cases h'; exact absurd rfl (hn _ _)
    cases d <;> cases e <;> simp only at h1 h2 <;> first
      | exact h1.elim
      | exact h2.elim
      | (subst h1; cases h2; done)
      | (subst h1; cases h2; rfl)
      | (subst h1; obtain ⟨a, vs, e0, e1, t1⟩ := h2; cases e0; done)
      | (subst h1; obtain ⟨a, us, e0, e1, k1, t1⟩ := h2; cases e0; done)
      | (subst h2; obtain ⟨a, vs, e0, e1, t1⟩ := h1; cases e0; done)
      | (subst h2; obtain ⟨a, us, e0, e1, k1, t1⟩ := h1; cases e0; done)
      | (obtain ⟨a, vs, rfl, e1, t1⟩ := h1; obtain ⟨a', vs', e0, e2, t2⟩ := h2; have := inj e0 e1 e2; cases this; rw [Frs.fun_ ih t1 t2]; done)
      | (obtain ⟨a, vs, rfl, e1, t1⟩ := h1; obtain ⟨a', vs', e0, e2, t2⟩ := h2; have := inj e0 e1 e2; cases this; done)
      | (obtain ⟨a, vs, rfl, e1, t1⟩ := h1; obtain ⟨a', us, e0, e2, k2, t2⟩ := h2; have := nrd e0 e1 e2 (fun _ _ z => by cases z); cases this; done)
      | (obtain ⟨a, us, rfl, e2, k2, t2⟩ := h1; obtain ⟨a', vs, e0, e1, t1⟩ := h2; have := nrd e0.symm e1 e2 (fun _ _ z => by cases z); cases this; done)
      | (obtain ⟨a, us, rfl, e1, k1, t1⟩ := h1
         obtain ⟨a', us', e0, e2, k2, t2⟩ := h2
         cases e0
         have := rd_fun e1 e2
         subst this
         have t := Frs.fun_ ih t1 t2
         rw [zip_back k1, zip_back k2, t])
end DV
namespace DV
open PySem PySem.Spec PyProof.Rows L2
open PySem.W (EqTree)
end DV
/-! ==, the left side a plain value, the right side an instance with an own __eq__: the left declines, the own one is asked. -/
namespace PySem.W
open PySem PySem.Calls PyProof.Rows
end PySem.W
/-! x not in [..], where no item is equal to x and the comparisons may change the heap. -/
/-! == of a plain value and an instance: the plain side declines. -/
namespace DV
open PySem PySem.Spec PyProof.Rows PySem.Calls PyProof.V Builtin SeqAt
end DV
namespace DV
open PySem PySem.Spec PyProof.Rows PySem.Calls PyProof.V Builtin SeqAt L2
end DV
/-! x not in [plain values], x an instance with an own __eq__ that says no to each. -/
namespace DV
open PySem PySem.Spec PyProof.Rows L2
end DV
namespace DV
open PySem PySem.Spec PyProof.Rows L2
end DV
namespace DV
open PySem PySem.Spec PyProof.Rows L2
end DV
namespace DV
open PySem PySem.Spec PyProof.Rows L2
end DV
namespace DV
open PySem PySem.Spec PyProof.Rows L2
/-- a list or a tuple, maybe in a cell -/
def LTSee (μ : Mu) (d : D) (xs : List D) : Prop := d = .lst xs ∨ d = .tup xs ∨ ∃ l, d = .ref l ∧ μ[l]? = some (.lst xs)
theorem LTSee.lk {μ : Mu} {d : D} {xs : List D} (h : LTSee μ d xs) (e : Mu) : lk (μ ++ e) d = .lst xs ∨ lk (μ ++ e) d = .tup xs := by
  rcases h with rfl | rfl | ⟨l, rfl, h⟩
  · exact .inl rfl
  · exact .inr rfl
  · have hl : l < μ.length := (Nat.lt_or_ge l μ.length).elim id fun g => by rw [List.getElem?_eq_none g] at h; cases h
    left
    have z : (μ ++ e)[l]? = some (.lst xs) := by rw [List.getElem?_append_left (l₁ := μ) (l₂ := e) hl]; exact h
    simp [DV.lk, z]
theorem LTSee.len {μ : Mu} {d : D} {xs : List D} (h : LTSee μ d xs) (e : Mu) (Q : D → Mu → Prop) : gLen [d] (μ ++ e) Q = Q (.int xs.length) (μ ++ e) := by
  have := h.lk e
  unfold gLen
  rcases this with z | z <;> simp [z]
end DV
namespace DV
open PySem PySem.Spec PyProof.Rows L2
/-! A table of any rows of texts: the first error that is due. -/
theorem loop_err {α : Type} {src : Option (Nat × List D)} {g : DTG} {body : DTS} {De : DEnds} {μ : Mu} (P : Gam → Prop) (err : α → Option Exn) (hG : Gd src μ) : ∀ (xs : List α) (ds : List D) (Γ : Gam), P Γ → ds.length = xs.length →
    (∀ (i : Nat) x d, xs[i]? = some x → ds[i]? = some d → ∀ Γ, P Γ → ∀ Kn : Gam → Mu → Prop, (∀ e, err x = some e → ∀ Γ', De.ex e Γ' μ) → (err x = none → ∀ Γ', P Γ' → Kn Γ' μ) → g d Γ μ (fun Γ1 μ1 => body { De with nx := Kn, ct := Kn, bk := De.nx } Γ1 μ1) (fun e μ1 => De.ex e Γ μ1)) →
    (∀ e, xs.findSome? err = some e → ∀ Γ', De.ex e Γ' μ) → (xs.findSome? err = none → ∀ Γ', P Γ' → De.nx Γ' μ) → dLoop src g body ds De Γ μ
  | [], [], Γ, hP, _, _, _, h2 => ⟨hG, h2 rfl Γ hP⟩
  | [], _ :: _, _, _, h, _, _, _ => by simp at h
  | _ :: _, [], _, _, h, _, _, _ => by simp at h
  | x :: xs, d :: ds, Γ, hP, hl, hs, h1, h2 => by
    refine ⟨hG, hs 0 x d rfl rfl Γ hP _ (fun e he Γ' => h1 e (by simp [List.findSome?_cons, he]) Γ') fun hn Γ' hP' => ?_⟩
    exact loop_err P err hG xs ds Γ' hP' (by simpa using hl) (fun i y d e1 e2 => hs (i + 1) y d (by simpa using e1) (by simpa using e2)) (fun e he => h1 e (by simp [List.findSome?_cons, hn, he])) (fun he => h2 (by simp [List.findSome?_cons, hn, he]))
def S_check_numberX : DSp := fun ds μ Q E => ∃ n : Int, ds = [.int n] ∧ ((1 ≤ n ∧ n ≤ 6) → Q .non μ) ∧ (¬ (1 ≤ n ∧ n ≤ 6) → E ⟨.BadCount, [("count", .int n)]⟩ μ)
theorem rd_check_numberX {n1 : Str} : ∀ ds μ Q E, S_check_numberX ds μ Q E → t_check_number (dFn μ Q E) (start0 [n1] ds) μ := by
  rintro _ μ Q E ⟨n, rfl, h1, h2⟩
  unfold t_check_number
  walk_at "dv"
  by_cases h : 1 ≤ n ∧ n ≤ 6
  · rw [decide_eq_true h.1, decide_eq_true h.2]
    exact FnEnd.here (h1 h)
  · have e : (decide (1 ≤ n) && decide (n ≤ 6)) = false := by
      rw [← Bool.decide_and]; exact decide_eq_false h
    cases a : decide (1 ≤ n) with
    | false => exact FnExc.here rfl (h2 h)
    | true =>
      rw [a, Bool.true_and] at e
      rw [e]
      exact FnExc.here rfl (h2 h)
def S_check_lengthX : DSp := fun ds μ Q E => ∃ n : Int, ds = [.int n] ∧ ((1 ≤ n ∧ n ≤ 8) → Q .non μ) ∧ (¬ (1 ≤ n ∧ n ≤ 8) → E ⟨.BadCount, [("count", .int n)]⟩ μ)
theorem rd_check_lengthX {n1 : Str} : ∀ ds μ Q E, S_check_lengthX ds μ Q E → t_check_length (dFn μ Q E) (start0 [n1] ds) μ := by
  rintro _ μ Q E ⟨n, rfl, h1, h2⟩
  unfold t_check_length
  walk_at "dv"
  by_cases h : 1 ≤ n ∧ n ≤ 8
  · rw [decide_eq_true h.1, decide_eq_true h.2]
    exact FnEnd.here (h1 h)
  · have e : (decide (1 ≤ n) && decide (n ≤ 8)) = false := by
      rw [← Bool.decide_and]; exact decide_eq_false h
    cases a : decide (1 ≤ n) with
    | false => exact FnExc.here rfl (h2 h)
    | true =>
      rw [a, Bool.true_and] at e
      rw [e]
      exact FnExc.here rfl (h2 h)
def cntE (n : Nat) : Exn := ⟨.BadCount, [("count", .int (n : Int))]⟩
def lenErr (n : Nat) : Option Exn := if 1 ≤ n ∧ n ≤ 8 then none else some (cntE n)
def widErr (w : Nat) (r : List Str) : Option Exn := if r.length = w then none else some (cntE r.length)
def namErr (x : Str) : Option Exn := if validN x = true then none else some ⟨.BadName, [("name", .str x)]⟩
def linesErr (g : List (List Str)) : Option Exn := (lenErr g.length).or ((lenErr (wid g)).or ((g.findSome? (widErr (wid g))).or (g.findSome? fun r => r.findSome? namErr)))
def errT (g : List (List Str)) : Option Exn := (linesErr g).or (if (outs g).length ≤ 6 then none else some (cntE (outs g).length))
theorem le1 {g : List (List Str)} (h : ¬ (1 ≤ g.length ∧ g.length ≤ 8)) : linesErr g = some (cntE g.length) := by
  unfold linesErr lenErr; rw [if_neg h]; rfl
theorem le2 {g : List (List Str)} (h : 1 ≤ g.length ∧ g.length ≤ 8) (h2 : ¬ (1 ≤ wid g ∧ wid g ≤ 8)) : linesErr g = some (cntE (wid g)) := by
  unfold linesErr lenErr; rw [if_pos h, if_neg h2]; rfl
theorem le3 {g : List (List Str)} (h : 1 ≤ g.length ∧ g.length ≤ 8) (h2 : 1 ≤ wid g ∧ wid g ≤ 8) : linesErr g = (g.findSome? (widErr (wid g))).or (g.findSome? fun r => r.findSome? namErr) := by
  unfold linesErr lenErr; rw [if_pos h, if_pos h2]; rfl
theorem le_tok {g : List (List Str)} (h : linesErr g = none) : (1 ≤ g.length ∧ g.length ≤ 8) ∧ (1 ≤ wid g ∧ wid g ≤ 8) ∧ (∀ r ∈ g, r.length = wid g) ∧ ∀ r ∈ g, ∀ x ∈ r, validN x = true := by
  by_cases h1 : 1 ≤ g.length ∧ g.length ≤ 8
  · by_cases h2 : 1 ≤ wid g ∧ wid g ≤ 8
    · rw [le3 h1 h2, Option.or_eq_none_iff] at h
      refine ⟨h1, h2, fun r hr => ?_, fun r hr x hx => ?_⟩
      · have := List.findSome?_eq_none_iff.mp h.1 r hr
        unfold widErr at this
        by_cases e : r.length = wid g
        · exact e
        · rw [if_neg e] at this; cases this
      · have := List.findSome?_eq_none_iff.mp (List.findSome?_eq_none_iff.mp h.2 r hr) x hx
        unfold namErr at this
        by_cases e : validN x = true
        · exact e
        · rw [if_neg e] at this; cases this
    · rw [le2 h1 h2] at h; cases h
  · rw [le1 h1] at h; cases h
theorem le_none {g : List (List Str)} (h1 : 1 ≤ g.length ∧ g.length ≤ 8) (h2 : 1 ≤ wid g ∧ wid g ≤ 8) (h3 : ∀ r ∈ g, r.length = wid g) (h4 : ∀ r ∈ g, ∀ x ∈ r, validN x = true) : linesErr g = none := by
  rw [le3 h1 h2, Option.or_eq_none_iff]
  refine ⟨List.findSome?_eq_none_iff.mpr fun r hr => ?_, List.findSome?_eq_none_iff.mpr fun r hr => List.findSome?_eq_none_iff.mpr fun x hx => ?_⟩
  · unfold widErr; rw [if_pos (h3 r hr)]
  · unfold namErr; rw [if_pos (h4 r hr x hx)]
theorem errT_none {g : List (List Str)} : errT g = none ↔ TOk g := by
  unfold errT
  rw [Option.or_eq_none_iff]
  constructor
  · rintro ⟨h1, h2⟩
    obtain ⟨a, b, c, d⟩ := le_tok h1
    refine ⟨a.1, a.2, b.1, b.2, c, d, ?_⟩
    by_cases e : (outs g).length ≤ 6
    · exact e
    · rw [if_neg e] at h2; cases h2
  · intro h
    exact ⟨le_none ⟨h.h1, h.h2⟩ ⟨h.w1, h.w2⟩ h.eq h.ok, by rw [if_pos h.few]⟩
theorem wid_get0 {g : List (List Str)} (h : 1 ≤ g.length) : ∃ s, g[0]? = some s ∧ s.length = wid g := by
  cases g with
  | nil => simp at h
  | cons s r => exact ⟨s, rfl, rfl⟩
theorem pu_rowsD (g : List (List Str)) : (rowsD g).pu = true := by
  show D.puL _ = true
  rw [puL_iff]
  intro d hd
  obtain ⟨r, _, rfl⟩ := List.mem_map.mp hd
  show D.puL _ = true
  rw [puL_iff]
  intro d hd
  obtain ⟨r, _, rfl⟩ := List.mem_map.mp hd
  rfl
theorem pu_tab2 (C : Cs) (g h : List (List Str)) : (Cell.ins C.T [(Str.ofString "rows", rowsD g), (Str.ofString "columns", rowsD h)]).pu = true := by
  simp only [Cell.pu, D.puF, pu_rowsD, Bool.and_true]
end DV
namespace DV
open PySem PySem.Spec PyProof.Rows L2
end DV
namespace DV
open PySem PySem.Spec PyProof.Rows L2
end DV
local macro_rules | `(tactic| walk_at "dv") => `(tactic| try simp only [DV.dSeq, DV.dIf, DV.dOrT, DV.dAndT, DV.dNotT, DV.dTest, DV.dChain, DV.dC, DV.dCall, DV.gLen, DV.dCons, DV.dVar, DV.dNil, DV.dBin, DV.dUn, DV.gNeg, DV.gIn, DV.gIx, DV.dRet, DV.dRetN, DV.dNext, DV.dFor, DV.dIter, DV.dName, DV.lk, DV.dAsg, DV.dDrop, DV.gLst, DV.gTup, DV.gLstM, DV.gAdd, DV.gI, DV.gMod, DV.gMul, DV.gFdiv, DV.gPow, DV.gAbs, DV.gInt, DV.gList, DV.gTuple, DV.dOp, DV.dOpK, DV.dIsi, DV.tyD, DV.gIs, DV.gIsNot, DV.D.isN, DV.dJoin, DV.dCellM, DV.dSetI, DV.dSlice, DV.dPart, DV.dNoPart, DV.dRevA, DV.dFin, DV.dAugI, DV.dComp, DV.wipeG, DV.cName, DV.cPair, DV.dYes, DV.dRange1, DV.dRange2, DV.dAnd, DV.dOr, DV.dNot, DV.dIfE, DV.gEq, DV.gNe, DV.sgn_one, DV.atI_zero, DV.dTruth, DV.truD, DV.dBreak, DV.dCont, DV.gSorted, DV.dSortK, DV.dRevT, DV.gInD, DV.gIsB, DV.gStr, DV.dPop0, DV.dDict, DV.dPairs, DV.keysD, DV.keyOfD, DV.dFinD, DV.dFld, DV.dSetF, DV.dMake, DV.dMethod, DV.dProp, DV.dOwnIx, DV.dNever, DV.gMulM, DV.gAddM, DV.gMax2, DV.dPair, DV.gDGet, DV.dSetD, DV.dDict0, DV.dComp2, DV.dSortSC, DV.isIns, DV.insOf,
  List.getElem?_cons_zero, List.getElem?_cons_succ, List.set_cons_zero, List.set_cons_succ, List.map_cons, List.map_nil, List.length_cons, List.length_nil, List.replicate, Nat.sub_self, List.append_nil, List.cons_append, List.nil_append, DV.start0, if_true, if_false, Bool.not_true, Bool.not_false, Bool.false_eq_true, Bool.true_and, Bool.and_true, Bool.or_true, Bool.true_or, Bool.false_or, Bool.or_false, eq_self_iff_true, not_true_eq_false, not_false_eq_true, ite_true, ite_false, cond_true, cond_false])
namespace DV
open PySem PySem.Spec PyProof.Rows L2
end DV
/-! (a, b) = a list of two. -/
namespace DV
open PySem PySem.Spec PyProof.Rows L2
end DV
local macro_rules | `(tactic| walk_at "dv") => `(tactic| try simp only [DV.dSeq, DV.dIf, DV.dOrT, DV.dAndT, DV.dNotT, DV.dTest, DV.dChain, DV.dC, DV.dCall, DV.gLen, DV.dCons, DV.dVar, DV.dNil, DV.dBin, DV.dUn, DV.gNeg, DV.gIn, DV.gIx, DV.dRet, DV.dRetN, DV.dNext, DV.dFor, DV.dIter, DV.dName, DV.lk, DV.dAsg, DV.dDrop, DV.gLst, DV.gTup, DV.gLstM, DV.gAdd, DV.gI, DV.gMod, DV.gMul, DV.gFdiv, DV.gPow, DV.gAbs, DV.gInt, DV.gList, DV.gTuple, DV.dOp, DV.dOpK, DV.dIsi, DV.tyD, DV.gIs, DV.gIsNot, DV.D.isN, DV.dJoin, DV.dCellM, DV.dSetI, DV.dSlice, DV.dPart, DV.dNoPart, DV.dRevA, DV.dFin, DV.dAugI, DV.dComp, DV.wipeG, DV.cName, DV.cPair, DV.dYes, DV.dRange1, DV.dRange2, DV.dAnd, DV.dOr, DV.dNot, DV.dIfE, DV.gEq, DV.gNe, DV.sgn_one, DV.atI_zero, DV.dTruth, DV.truD, DV.dBreak, DV.dCont, DV.gSorted, DV.dSortK, DV.dRevT, DV.gInD, DV.gIsB, DV.gStr, DV.dPop0, DV.dDict, DV.dPairs, DV.keysD, DV.keyOfD, DV.dFinD, DV.dFld, DV.dSetF, DV.dMake, DV.dMethod, DV.dProp, DV.dOwnIx, DV.dNever, DV.dRaise, DV.dRaise0, DV.gMulM, DV.gAddM, DV.gMax2, DV.dPair, DV.gDGet, DV.dSetD, DV.dDict0, DV.dComp2, DV.dSortSC, DV.isIns, DV.insOf,
  List.getElem?_cons_zero, List.getElem?_cons_succ, List.set_cons_zero, List.set_cons_succ, List.map_cons, List.map_nil, List.length_cons, List.length_nil, List.replicate, Nat.sub_self, List.append_nil, List.cons_append, List.nil_append, DV.start0, if_true, if_false, Bool.not_true, Bool.not_false, Bool.false_eq_true, Bool.true_and, Bool.and_true, Bool.or_true, Bool.true_or, Bool.false_or, Bool.or_false, eq_self_iff_true, not_true_eq_false, not_false_eq_true, ite_true, ite_false, cond_true, cond_false])
namespace DV
open PySem PySem.Spec PyProof.Rows L2
/-! the law's small ones -/
end DV
namespace DV
open PySem PySem.Spec PyProof.Rows L2
end DV
namespace DV
open PySem PySem.Spec PyProof.Rows L2
end DV
namespace DV
open PySem PySem.Spec PyProof.Rows L2
end DV
namespace DV
open PySem PySem.Spec PyProof.Rows L2
end DV
/-! str(x) by an own __str__ that lets nothing out. -/
namespace DV
open PySem PySem.Spec PyProof.Rows L2
def gStrOwn (C : Addr) (S : DSp) : GN := fun ds μ Q => match ds with
  | [d] => insOf μ C d ∧ S [d] μ (fun r μ' => ∃ z, r = .str z ∧ Q r μ') (fun _ _ => False)
  | _ => False
def rStrOwn (K : PySem.W.Frag) (C : Addr) (S : DSp) : List V → Hp → VK → Prop := fun xs H Q => ∃ a dx fs, xs = [.ref a] ∧ H a = some (.ins C dx fs) ∧ spOf K S [.ref a] H (fun v H' => (∃ z, v = .str z) ∧ Q v H') (fun _ _ _ => False)
theorem op_gStrOwn {K : PySem.W.Frag} {C : Addr} {S : DSp} : OpN K (rStrOwn K C S) (gStrOwn C S) := fun n μ xs ds Qd Q s r q l => by
  unfold gStrOwn at q
  split at q
  · cases r with
    | cons r1 r2 =>
      cases r2
      obtain ⟨h1, h2⟩ := q
      obtain ⟨a, da, us, rfl, e1⟩ := insOf_at s r1 h1
      refine ⟨a, da, us, rfl, e1, n, [_], μ, _, _, rfl, s, .cons r1 .nil, h2, ?_, fun _ _ _ _ _ _ _ _ z => z.elim⟩
      rintro n' v d μ' st sr rp ⟨z, rfl, qd⟩
      cases rp
      exact ⟨⟨z, rfl⟩, l n' _ _ μ' st sr (.str z) qd⟩
  · exact q.elim
section
variable {X : Cx} {W : WX} {a : Expr} {p pos : Pos} {fa : DTE} {C : Addr} {k : Nat} {ps : List Str} {S : DSp}
theorem cr_strOwn (h : HasM X.prog X.w X.K X.mg X.base C "__str__" k ps S) (hr : Room (k + 2) X.A) : CallR X (.type "str") (rStrOwn X.K C S) := by
  obtain ⟨f, fd, hm, hb, F⟩ := h
  intro pins s σ H xs us Q I r hq
  obtain ⟨a, dx, fs, rfl, ha, sp⟩ := hq
  rw [Vals.ref1 r]
  obtain ⟨mA, J, _⟩ := ins_get I.hok ha
  obtain ⟨od, J, _⟩ := J.look
  refine PySem.W.kso_call hr.in1.in1.units0 I.kIn J hm.at_ hm.fn ?_
  have hl := F.len _ _ _ _ sp
  have r1 : Vals [V.ref a] [Value.ref a] := .cons rfl .nil
  refine wpAny_call (codeAny_mono (F.run X.A.in1.in1 X.stack s H ⟨[.ref a], []⟩ [.ref a] [.ref a] _ _ hr.in1.in1 I.env0.in1.in1 (by
    have := hb s [.ref a] I.kIn (by simpa using hl)
    simpa using this) r1 sp) fun r s' hq => ?_)
  match r, hq with
  | .error e, hq =>
    obtain ⟨_, _, _, _, _, _, _, _, _, _, _, _, z⟩ := hq
    exact z.elim
  | .ok (.ret w), hq =>
    obtain ⟨z, H', I', rz, ⟨c, rfl⟩, q⟩ := I.after hq
    obtain ⟨t, rfl⟩ := rz
    exact ⟨.str c, H', I', ⟨t, rfl⟩, q⟩
theorem de_strOwn (h : HasM X.prog X.w X.K X.mg X.base C "__str__" k ps S) (hr : Room (k + 2) X.A) (hg : Gl X "str") (hm : X.mg "str" = none) (ha : DE X W a fa) (hs : starEach [a] X.env = (false, eval a X.env) :: starEach [] X.env := by rfl) : DE X W (.Call (.Name "str" p) [a] [] pos) (dCall (gStrOwn C S) (dCons fa dNil)) :=
  de_callTy (cr_strOwn h hr) op_gStrOwn hg hm (by decide +kernel) (da_cons ha da_nil hs) (he := hs)
end
end DV
namespace DV
open PySem PySem.Spec PyProof.Rows L2
/-! put: a table put into a table -/
def lstS (r : List Str) : D := .lst (r.map .str)
end DV
namespace DV
open PySem PySem.Spec PyProof.Rows L2
end DV
namespace DV
open PySem PySem.Spec PyProof.Rows L2
/-! put as the law makes it -/
end DV
namespace DV
open PySem PySem.Spec PyProof.Rows L2
/-! a firm table put into a firm one is firm -/
end DV
/-! for (a, b, c) in triples -/
namespace DV
open PySem PySem.Spec PyProof.Rows L2
end DV
namespace DV
open PySem PySem.Spec PyProof.Rows L2
/-! k65: the parts of the law -/
def S_T_eq (C : Cs) : DSp := fun ds μ Q _ => ∃ g h, ds = [tabD C g, tabD C h] ∧ TOk g ∧ TOk h ∧ Q (.bl (decide (g = h))) μ
def t_T_eq (C : Cs) : DTS := dRet (dAnd (dIsiC C.T (dVar 1)) (dBin gEq (dFld C.T "rows" (dVar 0)) (dFld C.T "rows" (dVar 1))))
theorem eqv_rows {f : List Str → D} {k j : Nat} (hf : ∀ r s, PyData.eqv (D.py k (f r)) (D.py j (f s)) = decide (r = s)) : ∀ (g h : List (List Str)), PyData.eqvAll ((g.map f).map (D.py k)) ((h.map f).map (D.py j)) = decide (g = h)
  | [], [] => by simp [PyData.eqvAll]
  | [], _ :: _ => by simp [PyData.eqvAll]
  | _ :: _, [] => by simp [PyData.eqvAll]
  | r :: g, s :: h => by
    simp only [List.map_cons, PyData.eqvAll, eqv_rows hf g h, hf, List.cons.injEq]
    by_cases h1 : r = s <;> simp [h1]
theorem okn_rowsD {g : List (List Str)} (h : ∀ r ∈ g, ∀ x ∈ r, asc x) (k : Nat) : D.okn (k + 2) (rowsD g) = true := by
  show (g.map tupS).all (D.okn (k + 1)) = true
  rw [List.all_map, List.all_eq_true]
  exact fun r hr => okn_tupS (h r hr) k
theorem deq_rowsD {μ : Mu} {g h : List (List Str)} (hg : ∀ r ∈ g, ∀ x ∈ r, asc x) (hh : ∀ r ∈ h, ∀ x ∈ r, asc x) : deqOk μ (rowsD g) (rowsD h) ∧ deq μ (rowsD g) (rowsD h) = decide (g = h) := by
  refine ⟨⟨okn_rowsD hg 10, okn_rowsD hh 10⟩, ?_⟩
  show PyData.eqv (.tuple ((g.map tupS).map (D.py 11))) (.tuple ((h.map tupS).map (D.py 11))) = _
  simp only [PyData.eqv]
  refine eqv_rows (fun r s => ?_) g h
  show PyData.eqv (.tuple ((r.map D.str).map (D.py 10))) (.tuple ((s.map D.str).map (D.py 10))) = _
  rw [eqv_tup]
  exact eqv_strs 10 10 r s
theorem rd_T_eq {C : Cs} {n1 n2 : Str} : ∀ ds μ Q E, S_T_eq C ds μ Q E → t_T_eq C (dFn μ Q E) (start0 [n1, n2] ds) μ := by
  rintro _ μ Q E ⟨g, h, rfl, hg, hh, q⟩
  unfold t_T_eq
  simp only [dRet, dAnd, dIsiC, dBin, dFld, dVar, start0, List.map_cons, List.map_nil, List.length_cons, List.length_nil, List.replicate, List.cons_append, List.nil_append, List.getElem?_cons_zero, List.getElem?_cons_succ, lk, tabD, look_rows, gEq]
  refine ⟨by first | rfl | trivial, by first | rfl | trivial, by first | rfl | trivial, ?_⟩
  obtain ⟨d1, d2⟩ := deq_rowsD (μ := μ) hg.ascm hh.ascm
  refine ⟨d1, ?_⟩
  rw [d2]
  exact FnEnd.here q
end DV
namespace DV
open PySem PySem.Spec PyProof.Rows L2
end DV
namespace DV
open PySem PySem.Spec PyProof.Rows L2
/-! the table of a power -/
end DV
namespace DV
open PySem PySem.Spec PyProof.Rows L2
/-! any value, asked with a list of names -/
end DV
namespace DV
open PySem PySem.Spec PyProof.Rows L2
theorem lenL {S : List Nat} : ∀ ts : List (List Nat), (TL.joinL S ts).length ≤ (ts.map (·.length)).sum + ts.length * S.length
  | [] => by simp [TL.joinL]
  | [t] => by simp [TL.joinL]
  | t :: u :: ts => by
    have := lenL (S := S) (u :: ts)
    rw [TL.joinL]
    simp only [List.length_append, List.map_cons, List.sum_cons, List.length_cons, Nat.add_mul] at *
    omega
theorem len_joinS {sep : Str} {ts : List Str} {m : Nat} (h : ∀ t ∈ ts, t.length ≤ m) : (Txt.join sep ts).length ≤ ts.length * m + ts.length * sep.length ∧ (ts.map (·.length)).sum ≤ ts.length * m := by
  have hs : ∀ ts : List Str, (∀ t ∈ ts, t.length ≤ m) → (ts.map (·.length)).sum ≤ ts.length * m := fun ts => by
    induction ts with
    | nil => intro _; simp
    | cons a ts ih =>
      intro h
      have h1 := h a (by simp)
      have h2 := ih fun t ht => h t (by simp [ht])
      simp only [List.map_cons, List.sum_cons, List.length_cons, Nat.add_mul] at *
      omega
  refine ⟨?_, hs ts h⟩
  have e : (Txt.join sep ts).length = (TL.joinL sep.cps.toList (ts.map TL.tl)).length := by
    show (Txt.join sep ts).cps.size = _
    rw [TL.join_eq, ← Array.length_toList, show (Str.join sep ts).cps.toList = TL.tl (Str.join sep ts) from rfl, TL.tl_join]
  rw [e]
  have l := lenL (S := sep.cps.toList) (ts.map TL.tl)
  have e2 : ((ts.map TL.tl).map (·.length)).sum = (ts.map (·.length)).sum := by
    rw [List.map_map]; rfl
  have e3 : sep.cps.toList.length = sep.length := Array.length_toList
  rw [e2, List.length_map, e3] at l
  have := hs ts h
  omega
def strT (g : List (List Str)) : Str := Txt.join " / " (g.map fun r => Txt.join " " r)
def S_T_str (C : Cs) : DSp := fun ds μ Q _ => ∃ g, ds = [tabD C g] ∧ TOk g ∧ Q (.str (strT g)) μ
def t_T_str (C : Cs) : DTS := dRet (dJoin (dC (.str " / ")) (dComp true [1] (dIter (dFld C.T "rows" (dVar 0))) (cName 1) (dYes) (dJoin (dC (.str " ")) (dVar 1))))
theorem look_rows2 {g : List (List Str)} : (tabF g).lookup (Str.ofString "rows") = some (rowsD g) := by simp [tabF, List.lookup]
theorem row_len {g : List (List Str)} (h : TOk g) : ∀ r ∈ g, (∀ x ∈ r, asc x ∧ x.length ≤ 100) ∧ r.length ≤ 8 := fun r hr => ⟨fun x hx => by
    have := valid_asc (h.ok r hr x hx)
    exact ⟨this.1, by have := this.2.1; omega⟩, by rw [h.eq r hr]; exact h.w2⟩
theorem rd_T_str {C : Cs} {n1 n2 : Str} : ∀ ds μ Q E, S_T_str C ds μ Q E → t_T_str C (dFn μ Q E) (start0 [n1, n2] ds) μ := by
  rintro _ μ Q E ⟨g, rfl, hg, q⟩
  have hl := hg.h2
  have rl := row_len hg
  have s1 : (Str.ofString " ").length = 1 := by decide +kernel
  have s3 : (Str.ofString " / ").length = 3 := by decide +kernel
  have lkt : lk μ (tabD C g) = .ins C.T (tabF g) := rfl
  unfold t_T_str
  simp only [dRet, dJoin, dC, dComp, dIter, dFld, dVar, start0, List.map_cons, List.map_nil, List.length_cons, List.length_nil, List.replicate, List.cons_append, List.nil_append, List.getElem?_cons_zero, List.getElem?_cons_succ, lkt, look_rows2]
  refine ⟨⟨_, rfl⟩, trivial, ?_⟩
  simp only [rowsD, lk, wipeG, List.set_cons_succ, List.set_cons_zero]
  refine comp_list (src := none) ((g.map fun r => Txt.join " " r).map .str) trivial (by simp) (by rw [List.length_map, sizeLine_eq]; omega) ?_ ?_
  · intro k x y hx hy K1 K2 k1
    rw [List.getElem?_map] at hx
    rw [List.getElem?_map, List.getElem?_map] at hy
    cases hk : g[k]? with
    | none => rw [hk] at hx; cases hx
    | some r =>
      rw [hk] at hx hy
      cases hx; cases hy
      obtain ⟨a, b⟩ := rl r (List.mem_of_getElem? hk)
      have := (len_joinS (sep := " ") fun t ht => (a t ht).2).2
      simp only [cName, dYes, cond_true, dJoin, dC, dVar, List.set_cons_succ, List.set_cons_zero, List.getElem?_cons_zero, List.getElem?_cons_succ, lk, strD_map, s1]
      refine ⟨⟨_, rfl⟩, by omega, k1⟩
  · simp only [dFin, lk, strD_map, s3]
    have l2 : ∀ t ∈ g.map (fun r => Txt.join " " r), t.length ≤ 1000 := fun t ht => by
      obtain ⟨r, hr, rfl⟩ := List.mem_map.mp ht
      obtain ⟨a, b⟩ := rl r hr
      have := (len_joinS (sep := Str.ofString " ") fun t ht => (a t ht).2).1
      rw [s1] at this
      omega
    have := (len_joinS (sep := Str.ofString " / ") l2).2
    rw [List.length_map] at this ⊢
    exact ⟨by omega, FnEnd.here q⟩
end DV
namespace DV
open PySem PySem.Spec PyProof.Rows L2
end DV
local macro_rules | `(tactic| walk_at "dv") => `(tactic| try simp only [DV.dSeq, DV.dIf, DV.dOrT, DV.dAndT, DV.dNotT, DV.dTest, DV.dChain, DV.dC, DV.dCall, DV.gLen, DV.dCons, DV.dVar, DV.dNil, DV.dBin, DV.dUn, DV.gNeg, DV.gIn, DV.gIx, DV.dRet, DV.dRetN, DV.dNext, DV.dFor, DV.dIter, DV.dName, DV.lk, DV.dAsg, DV.dDrop, DV.gLst, DV.gTup, DV.gLstM, DV.gAdd, DV.gI, DV.gMod, DV.gMul, DV.gFdiv, DV.gPow, DV.gAbs, DV.gInt, DV.gList, DV.gTuple, DV.dOp, DV.dOpK, DV.dIsi, DV.tyD, DV.gIs, DV.gIsNot, DV.D.isN, DV.dJoin, DV.dCellM, DV.dSetI, DV.dSlice, DV.dPart, DV.dNoPart, DV.dRevA, DV.dFin, DV.dAugI, DV.dComp, DV.wipeG, DV.cName, DV.cPair, DV.dYes, DV.dRange1, DV.dRange2, DV.dAnd, DV.dOr, DV.dNot, DV.dIfE, DV.gEq, DV.gNe, DV.sgn_one, DV.atI_zero, DV.dTruth, DV.truD, DV.dBreak, DV.dCont, DV.gSorted, DV.dSortK, DV.dRevT, DV.gInD, DV.gIsB, DV.gStr, DV.dPop0, DV.dDict, DV.dPairs, DV.keysD, DV.keyOfD, DV.dFinD, DV.dFld, DV.dSetF, DV.dMake, DV.dMethod, DV.dProp, DV.dOwnIx, DV.dNever, DV.gMulM, DV.gAddM, DV.gMax2, DV.dPair, DV.gDGet, DV.dSetD, DV.dDict0, DV.dComp2, DV.dSortSC, DV.isIns, DV.insOf,
  List.getElem?_cons_zero, List.getElem?_cons_succ, List.set_cons_zero, List.set_cons_succ, List.map_cons, List.map_nil, List.length_cons, List.length_nil, List.replicate, Nat.sub_self, List.append_nil, List.cons_append, List.nil_append, DV.start0, if_true, if_false, Bool.not_true, Bool.not_false, Bool.false_eq_true, Bool.true_and, Bool.and_true, Bool.or_true, Bool.true_or, Bool.false_or, Bool.or_false, eq_self_iff_true, not_true_eq_false, not_false_eq_true, ite_true, ite_false, cond_true, cond_false])
namespace DV
open PySem PySem.Spec PyProof.Rows L2
end DV
/-! != of two lists of one length, looking through cells. -/
namespace DV
open PySem PySem.Spec PyProof.Rows L2
open PySem.W (EqTree)
end DV
namespace DV
open PySem PySem.Spec PyProof.Rows L2
/-! what Power(pool, piles) answers -/
end DV
/-! x in ys, x any data, looking through cells. -/
namespace DV
open PySem PySem.Spec PyProof.Rows L2
end DV
local macro_rules | `(tactic| walk_at "dv") => `(tactic| try simp only [DV.dSeq, DV.dIf, DV.dOrT, DV.dAndT, DV.dNotT, DV.dTest, DV.dChain, DV.dC, DV.dCall, DV.gLen, DV.dCons, DV.dVar, DV.dNil, DV.dBin, DV.dUn, DV.gNeg, DV.gIn, DV.gIx, DV.dRet, DV.dRetN, DV.dNext, DV.dFor, DV.dIter, DV.dName, DV.lk, DV.dAsg, DV.dDrop, DV.gLst, DV.gTup, DV.gLstM, DV.gAdd, DV.gI, DV.gMod, DV.gMul, DV.gFdiv, DV.gPow, DV.gAbs, DV.gInt, DV.gList, DV.gTuple, DV.dOp, DV.dOpK, DV.dIsi, DV.tyD, DV.gIs, DV.gIsNot, DV.D.isN, DV.dJoin, DV.dCellM, DV.dSetI, DV.dSlice, DV.dPart, DV.dNoPart, DV.dRevA, DV.dFin, DV.dAugI, DV.dComp, DV.wipeG, DV.cName, DV.cPair, DV.dYes, DV.dRange1, DV.dRange2, DV.dAnd, DV.dOr, DV.dNot, DV.dIfE, DV.gEq, DV.gNe, DV.sgn_one, DV.atI_zero, DV.dTruth, DV.truD, DV.dBreak, DV.dCont, DV.gSorted, DV.dSortK, DV.dRevT, DV.gInD, DV.gIsB, DV.gStr, DV.dPop0, DV.dDict, DV.dPairs, DV.keysD, DV.keyOfD, DV.dFinD, DV.dFld, DV.dSetF, DV.dMake, DV.dMethod, DV.dProp, DV.dOwnIx, DV.dNever, DV.dRaise, DV.dRaise0, DV.gMulM, DV.gAddM, DV.gMax2, DV.dPair, DV.gDGet, DV.dSetD, DV.dDict0, DV.dComp2, DV.dSortSC, DV.isIns, DV.insOf,
  List.getElem?_cons_zero, List.getElem?_cons_succ, List.set_cons_zero, List.set_cons_succ, List.map_cons, List.map_nil, List.length_cons, List.length_nil, List.replicate, Nat.sub_self, List.append_nil, List.cons_append, List.nil_append, DV.start0, if_true, if_false, Bool.not_true, Bool.not_false, Bool.false_eq_true, Bool.true_and, Bool.and_true, Bool.or_true, Bool.true_or, Bool.false_or, Bool.or_false, eq_self_iff_true, not_true_eq_false, not_false_eq_true, ite_true, ite_false, cond_true, cond_false])
namespace DV
open PySem PySem.Spec PyProof.Rows L2
/-! plain values: no cells, no dicts, no objects -/
end DV
namespace DV
open PySem PySem.Spec PyProof.Rows L2
/-! any value, asked with a list of names: what it is made of -/
end DV
local macro_rules | `(tactic| walk_at "dv") => `(tactic| try simp only [DV.dSeq, DV.dIf, DV.dOrT, DV.dAndT, DV.dNotT, DV.dTest, DV.dChain, DV.dC, DV.dCall, DV.gLen, DV.dCons, DV.dVar, DV.dNil, DV.dBin, DV.dUn, DV.gNeg, DV.gIn, DV.gIx, DV.dRet, DV.dRetN, DV.dNext, DV.dFor, DV.dIter, DV.dName, DV.lk, DV.dAsg, DV.dDrop, DV.gLst, DV.gTup, DV.gLstM, DV.gAdd, DV.gI, DV.gMod, DV.gMul, DV.gFdiv, DV.gPow, DV.gAbs, DV.gInt, DV.gList, DV.gTuple, DV.dOp, DV.dOpK, DV.dIsi, DV.tyD, DV.gIs, DV.gIsNot, DV.D.isN, DV.dJoin, DV.dCellM, DV.dSetI, DV.dSlice, DV.dPart, DV.dNoPart, DV.dRevA, DV.dFin, DV.dAugI, DV.dComp, DV.wipeG, DV.cName, DV.cPair, DV.dYes, DV.dRange1, DV.dRange2, DV.dAnd, DV.dOr, DV.dNot, DV.dIfE, DV.gEq, DV.gNe, DV.sgn_one, DV.atI_zero, DV.dTruth, DV.truD, DV.dBreak, DV.dCont, DV.gSorted, DV.dSortK, DV.dRevT, DV.gInD, DV.gIsB, DV.gStr, DV.dPop0, DV.dDict, DV.dPairs, DV.keysD, DV.keyOfD, DV.dFinD, DV.dFld, DV.dSetF, DV.dMake, DV.dMethod, DV.dProp, DV.dOwnIx, DV.dNever, DV.gMulM, DV.gAddM, DV.gMax2, DV.dPair, DV.gDGet, DV.dSetD, DV.dDict0, DV.dComp2, DV.dSortSC, DV.isIns, DV.insOf,
  List.getElem?_cons_zero, List.getElem?_cons_succ, List.set_cons_zero, List.set_cons_succ, List.map_cons, List.map_nil, List.length_cons, List.length_nil, List.replicate, Nat.sub_self, List.append_nil, List.cons_append, List.nil_append, DV.start0, if_true, if_false, Bool.not_true, Bool.not_false, Bool.false_eq_true, Bool.true_and, Bool.and_true, Bool.or_true, Bool.true_or, Bool.false_or, Bool.or_false, eq_self_iff_true, not_true_eq_false, not_false_eq_true, ite_true, ite_false, cond_true, cond_false])
namespace DV
open PySem PySem.Spec PyProof.Rows L2
/-! the law's own way to the same answer -/
end DV
/-! Own classes and methods called with keywords. -/
namespace DV
open PySem PySem.Spec PyProof.Rows L2
def HasIk (P : Program) (w : World) (K : PySem.W.Frag) (mg : Str → Option Value) (base : Heap) (C : Addr) (x : Str) (k : Nat) (ps : List Str) (S : DSp) (kb : FuncData → Prop) : Prop :=
  ∃ f fd, mg x = some (.ref C) ∧ Mk K C f ∧ Binds K fd ps [] ∧ kb fd ∧ FnOk P w K mg base (L2.CX P w) k f fd ps (spOf K S)
theorem HasIk.i {P : Program} {w : World} {K : PySem.W.Frag} {mg : Str → Option Value} {base : Heap} {C : Addr} {x : Str} {k : Nat} {ps : List Str} {S : DSp} {kb : FuncData → Prop} (h : HasIk P w K mg base C x k ps S kb) : HasI P w K mg base C x k ps S :=
  let ⟨f, fd, h1, h2, h3, _, h5⟩ := h
  ⟨f, fd, h1, h2, h3, h5⟩
def HasMk (P : Program) (w : World) (K : PySem.W.Frag) (mg : Str → Option Value) (base : Heap) (C : Addr) (m : Str) (k : Nat) (ps : List Str) (S : DSp) (kb : FuncData → Prop) : Prop :=
  ∃ f fd, Meth K C m f ∧ Binds K fd ps [] ∧ kb fd ∧ FnOk P w K mg base (L2.CX P w) k f fd ps (spOf K S)
theorem HasMk.i {P : Program} {w : World} {K : PySem.W.Frag} {mg : Str → Option Value} {base : Heap} {C : Addr} {x : Str} {k : Nat} {ps : List Str} {S : DSp} {kb : FuncData → Prop} (h : HasMk P w K mg base C x k ps S kb) : HasM P w K mg base C x k ps S :=
  let ⟨f, fd, h1, h2, _, h5⟩ := h
  ⟨f, fd, h1, h2, h5⟩
def up1 (π : List Nat) : List Nat := 0 :: π.map (· + 1)
theorem pick_up {α : Type} (π : List Nat) (a : α) (l : List α) : pick (up1 π) (a :: l) = a :: pick π l := by
  unfold pick up1
  rw [List.filterMap_cons_some (b := a) (by simp), List.filterMap_map]
  congr 1
/-- the positional arguments and those by keywords, by places -/
def dArgK (π : List Nat) (np nk : Nat) (fr fk : DTA) : DTA := fun Γ μ Q E => fr Γ μ (fun xs μ1 => xs.length = np ∧ fk Γ μ1 (fun ys μ2 => ys.length = nk ∧ Q (pick π (xs ++ ys)) μ2) E) E
section
variable {X : Cx} {W : WX} {k : Nat} {fI C : Addr} {fd : FuncData} {ps ks : List Str} {S : DSp} {x m : Str} {p pos apos : Pos} {o e : Expr} {es : List Expr} {kws : List Keyword} {fo : DTE} {fr fk : DTA} {π : List Nat} {np nk : Nat} {kb : FuncData → Prop}
theorem kb_self (hb : KBd X.K fd ps (np + 1) ks (up1 π)) {s : Shared} {us ws : List Value} (h : X.K.In s.heap) (l1 : us.length = np) (l2 : ws.length = ks.length) (a : Value) : BindsTo s fd ⟨a :: us, ks.zip ws⟩ (ps.zip (a :: pick π (us ++ ws))) := by
  have := hb s (a :: us) ws h (by rw [List.length_cons, l1]) l2
  rwa [List.cons_append, pick_up] at this
end
end DV
namespace DV
open PySem PySem.Spec PyProof.Rows L2
/-! the law's look at one power -/
end DV
namespace DV
open PySem PySem.Spec PyProof.Rows L2
end DV
namespace DV
open PySem PySem.Spec PyProof.Rows L2
def S_l_held10 : DSp := fun ds μ Q _ => ∃ g, ds = [gridD g] ∧ g.length ≤ 8 ∧ (∀ r ∈ g, r.length ≤ 8) ∧ Q (.lst ((outs g).map .str)) μ
theorem rd_l_held10 {n1 n2 n3 n4 : Str} : ∀ ds μ Q E, S_l_held10 ds μ Q E → t_l_held (dFn μ Q E) (start0 [n1, n2, n3, n4] ds) μ := by
  rintro _ μ Q E ⟨g, rfl, a1, hg, q⟩
  unfold t_l_held
  rw [dSeq]
  simp only [dAsg, dCall, dNil, gLst, start0, List.map_cons, List.map_nil, List.length_cons, List.length_nil, List.replicate, List.cons_append, List.nil_append]
  refine ⟨by decide, ?_⟩
  simp only [dName, List.set_cons_succ, List.set_cons_zero]
  rw [dSeq]
  simp only [dFor, dIter, dVar, List.getElem?_cons_zero]
  have rl : ∀ i, (heldTo (g.take i) []).length ≤ 64 := fun i => by
    have := held_len (w := 8) (g.take i) [] fun r hr => hg r (List.mem_of_mem_take hr)
    have h2 : (g.take i).length ≤ 8 := by rw [List.length_take]; omega
    simp only [List.length_nil, Nat.zero_add] at this
    omega
  refine loop_pass' (src := none) (μ := μ) (fun i Γ => ∃ a, Γ = [some (gridD g), some (.lst ((heldTo (g.take i) []).map .str)), a, none]) trivial ⟨none, rfl⟩ ?_ ?_
  · rintro i d Γ hd ⟨a, rfl⟩ Kn kn
    have hi : i < g.length := by have := (List.getElem?_eq_some_iff.mp hd).1; simpa using this
    rw [List.getElem?_map, List.getElem?_eq_getElem hi] at hd
    cases hd
    have hrl := hg _ (List.getElem_mem hi)
    have e : heldTo (g.take (i + 1)) [] = heldTo (g.take i) [] ++ g[i].filter fun x => decide (x ∉ heldTo (g.take i) []) := by
      rw [List.take_succ, List.getElem?_eq_getElem hi]
      exact held_snoc _ _ _
    have hl1 := rl i
    have hl2 := rl (i + 1)
    rw [e, List.length_append] at hl2
    generalize heldTo (g.take i) [] = f at e hl1 hl2 ⊢
    simp only [dName, List.set_cons_succ, List.set_cons_zero, dAsg, dBin, dComp, dIter, dVar, List.getElem?_cons_zero, List.getElem?_cons_succ, wipeG]
    refine comp_notin (s := g[i]) (w := f) (d := .lst (f.map .str)) (dVar 1) (by omega) (by simp) (.inr rfl) (fun _ _ _ => rfl) ?_
    simp only [dFin, gAdd, lk]
    refine ⟨by rw [List.length_map, List.length_map, sizeLine_eq]; omega, ?_⟩
    rw [← List.map_append, ← e]
    exact kn _ ⟨_, rfl⟩
  · rintro Γ ⟨a, rfl⟩
    rw [List.length_map, List.take_length]
    have hl := rl g.length
    rw [List.take_length] at hl
    simp only [dRet, dCall, dCons, dNil, dVar, List.getElem?_cons_zero, List.getElem?_cons_succ, gSortSet]
    have e : txtsD μ (.lst ((heldTo g []).map .str)) = some (heldTo g []) := by
      unfold txtsD; simp only [lk]; exact strs_mapM _
    rw [e]
    dsimp only
    refine ⟨by omega, ?_⟩
    rw [held_outs, dFin]
    exact FnEnd.pure0 (Upd.refl _) (pu_strs _) q
/-- Table.__eq__, of two tables or of a table and any plain thing -/
def S_T_eqX (C : Cs) : DSp := fun ds μ Q E => S_T_eq C ds μ Q E ∨ ∃ g d t, ds = [tabD C g, d] ∧ (∀ C' fs, lk μ d ≠ .ins C' fs) ∧ tyD (lk μ d) = some t ∧ Q (.bl false) μ
theorem rd_T_eqX {C : Cs} {n1 n2 : Str} : ∀ ds μ Q E, S_T_eqX C ds μ Q E → t_T_eq C (dFn μ Q E) (start0 [n1, n2] ds) μ := by
  rintro ds μ Q E (h | ⟨g, d, t, rfl, hn, ht, q⟩)
  · exact rd_T_eq _ _ _ _ h
  · unfold t_T_eq
    simp only [dRet, dAnd, dIsiC, dVar, start0, List.map_cons, List.map_nil, List.length_cons, List.length_nil, List.replicate, List.cons_append, List.nil_append, List.getElem?_cons_zero, List.getElem?_cons_succ]
    cases e : lk μ d <;> rw [e] at ht hn <;> first
      | exact absurd rfl (hn _ _)
      | (simp only [ht, cond_false]; exact FnEnd.here q)
      | (simp only [tyD, reduceCtorEq] at ht)
def xD (x : Exn) : D := .lst [.str (match x.k with | .BadCount => Str.ofString "count" | _ => Str.ofString "name"), (x.fs.headD (Str.empty, .non)).2]
theorem errT_form {g : List (List Str)} {e : Exn} (he : errT g = some e) : (∃ k : Nat, e = cntE k) ∨ ∃ x, (∃ r ∈ g, x ∈ r) ∧ e = ⟨.BadName, [("name", .str x)]⟩ := by
  unfold errT at he
  rw [Option.or_eq_some_iff] at he
  rcases he with he | ⟨_, he⟩
  · unfold linesErr lenErr at he
    simp only [Option.or_eq_some_iff] at he
    rcases he with he | ⟨-, he | ⟨-, he | ⟨-, he⟩⟩⟩
    · split at he
      · cases he
      · cases he; exact .inl ⟨_, rfl⟩
    · split at he
      · cases he
      · cases he; exact .inl ⟨_, rfl⟩
    · obtain ⟨s, _, h⟩ := List.exists_of_findSome?_eq_some he
      unfold widErr at h
      split at h
      · cases h
      · cases h; exact .inl ⟨_, rfl⟩
    · obtain ⟨s, hs, h⟩ := List.exists_of_findSome?_eq_some he
      obtain ⟨x, hx, h⟩ := List.exists_of_findSome?_eq_some h
      unfold namErr at h
      split at h
      · cases h
      · cases h; exact .inr ⟨x, ⟨s, hs, hx⟩, rfl⟩
  · split at he
    · cases he
    · cases he; exact .inl ⟨_, rfl⟩
end DV
local macro_rules | `(tactic| walk_at "dv") => `(tactic| try simp only [DV.dSeq, DV.dIf, DV.dOrT, DV.dAndT, DV.dNotT, DV.dTest, DV.dChain, DV.dC, DV.dCall, DV.gLen, DV.dCons, DV.dVar, DV.dNil, DV.dBin, DV.dUn, DV.gNeg, DV.gIn, DV.gIx, DV.dRet, DV.dRetN, DV.dNext, DV.dFor, DV.dIter, DV.dName, DV.lk, DV.dAsg, DV.dDrop, DV.gLst, DV.gTup, DV.gLstM, DV.gAdd, DV.gI, DV.gMod, DV.gMul, DV.gFdiv, DV.gPow, DV.gAbs, DV.gInt, DV.gList, DV.gTuple, DV.dOp, DV.dOpK, DV.dIsi, DV.tyD, DV.gIs, DV.gIsNot, DV.D.isN, DV.dJoin, DV.dCellM, DV.dSetI, DV.dSlice, DV.dPart, DV.dNoPart, DV.dRevA, DV.dFin, DV.dAugI, DV.dComp, DV.wipeG, DV.cName, DV.cPair, DV.dYes, DV.dRange1, DV.dRange2, DV.dAnd, DV.dOr, DV.dNot, DV.dIfE, DV.gEq, DV.gNe, DV.sgn_one, DV.atI_zero, DV.dTruth, DV.truD, DV.dBreak, DV.dCont, DV.gSorted, DV.dSortK, DV.dRevT, DV.gInD, DV.gIsB, DV.gStr, DV.dPop0, DV.dDict, DV.dPairs, DV.keysD, DV.keyOfD, DV.dFinD, DV.dFld, DV.dSetF, DV.dMake, DV.dMethod, DV.dProp, DV.dOwnIx, DV.dNever, DV.dRaise, DV.dRaise0, DV.gMulM, DV.gAddM, DV.gMax2, DV.dPair, DV.gDGet, DV.dSetD, DV.dDict0, DV.dComp2, DV.dSortSC, DV.isIns, DV.insOf,
  List.getElem?_cons_zero, List.getElem?_cons_succ, List.set_cons_zero, List.set_cons_succ, List.map_cons, List.map_nil, List.length_cons, List.length_nil, List.replicate, Nat.sub_self, List.append_nil, List.cons_append, List.nil_append, DV.start0, if_true, if_false, Bool.not_true, Bool.not_false, Bool.false_eq_true, Bool.true_and, Bool.and_true, Bool.or_true, Bool.true_or, Bool.false_or, Bool.or_false, eq_self_iff_true, not_true_eq_false, not_false_eq_true, ite_true, ite_false, cond_true, cond_false])
namespace DV
open PySem PySem.Spec PyProof.Rows L2
/-! Table.__init__ for rows of longer texts. -/
def ShortL (g : List (List Str)) : Prop := ∀ r ∈ g, ∀ x ∈ r, x.length ≤ 1000000
def S_check_linesL : DSp := fun ds μ Q E => ∃ d g, ds = [d] ∧ TSee μ d g ∧ ShortL g ∧ (linesErr g = none → Q .non μ) ∧ ∀ e, linesErr g = some e → E e μ
def t_check_linesL : DTS := dSeq (dDrop (dOp S_check_lengthX (dCons (dCall gLen (dCons (dVar 0) dNil)) (dNil)))) (dSeq (dDrop (dOp S_check_lengthX (dCons (dCall gLen (dCons (dBin gIx (dVar 0) (dC (.int 0))) dNil)) (dNil)))) (dSeq (dFor (dIter (dVar 0)) (dName 1) (dIf (dTest (dBin gNe (dCall gLen (dCons (dVar 1) dNil)) (dCall gLen (dCons (dBin gIx (dVar 0) (dC (.int 0))) dNil)))) (dRaise .BadCount "count" (dCall gLen (dCons (dVar 1) dNil))) (dNext))) (dFor (dIter (dVar 0)) (dName 1) (dFor (dIter (dVar 1)) (dName 2) (dIf (dNotT (dTest (dOp S_valid_name (dCons (dVar 2) (dNil))))) (dRaise .BadName "name" (dVar 2)) (dNext))))))
theorem rd_check_linesL {n1 n2 n3 : Str} : ∀ ds μ Q E, S_check_linesL ds μ Q E → t_check_linesL (dFn μ Q E) (start0 [n1, n2, n3] ds) μ := by
  rintro _ μ Q E ⟨d, g, rfl, ⟨rows, r1, r2, r3⟩, hsh, qn, qe⟩
  unfold t_check_linesL
  rw [dSeq]
  simp only [dDrop, dOp, dCons, dNil, dCall, dVar, dC, dBin, start0, List.map_cons, List.map_nil, List.length_cons, List.length_nil, List.replicate, List.cons_append, List.nil_append, List.getElem?_cons_zero, sq_len r1]
  refine ⟨_, rfl, fun h1 => ?_, fun h1 => ?_⟩
  rotate_left
  · refine FnExc.here rfl (qe _ ?_)
    rw [le1 (by omega), cntE, r2]
  have h1' : 1 ≤ g.length ∧ g.length ≤ 8 := by omega
  obtain ⟨s0, hs0, hw⟩ := wid_get0 h1'.1
  obtain ⟨r0, hr0, q0⟩ := r3 0 s0 hs0
  have ix0 : ∀ Q', gIx d (.int 0) μ Q' = Q' r0 μ := fun Q' => sq_ix r1 hr0 Q'
  dsimp only
  rw [dSeq]
  simp only [dSeq, dDrop, dOp, dCons, dNil, dCall, dVar, dC, dBin, List.getElem?_cons_zero, ix0, sq_len q0]
  refine ⟨_, rfl, fun h2 => ?_, fun h2 => ?_⟩
  rotate_left
  · rw [List.length_map, hw] at h2
    refine FnExc.here rfl (qe _ ?_)
    rw [le2 h1' (by omega), cntE, List.length_map, hw]
  rw [List.length_map, hw] at h2
  have h2' : 1 ≤ wid g ∧ wid g ≤ 8 := by omega
  have e3 := le3 h1' h2'
  unfold dFor
  obtain ⟨src, hG, hi⟩ := sq_iter (Γ := [some d, none, none]) (fa := dVar 0) r1 (fun _ _ => rfl)
  dsimp only
  rw [hi]
  refine loop_err (fun Γ => ∃ a b, Γ = [some d, a, b]) (widErr (wid g)) hG g rows _ ⟨_, _, rfl⟩ r2 ?_ ?_ ?_
  · rintro i s r hs hr _ ⟨a, b, rfl⟩ Kn ke kn
    obtain ⟨r', e1, e2⟩ := r3 i s hs
    rw [hr] at e1; cases e1
    simp only [dName, dIf, dTest, dBin, dCall, dCons, dNil, dVar, dC, List.set_cons_succ, List.set_cons_zero, List.getElem?_cons_succ, List.getElem?_cons_zero, sq_len e2, ix0, sq_len q0, gNe, deq_int]
    refine ⟨deqOk_int _ _ _, ?_⟩
    rw [List.length_map, List.length_map, hw]
    by_cases h : s.length = wid g
    · rw [show decide ((s.length : Int) = (wid g : Int)) = true from decide_eq_true (by omega)]
      exact kn (by unfold widErr; rw [if_pos h]) _ ⟨_, _, rfl⟩
    · rw [show decide ((s.length : Int) = (wid g : Int)) = false from decide_eq_false (by omega)]
      simp only [Bool.not_false, cond_true, dRaise, dCall, dCons, dNil, dVar, List.getElem?_cons_succ, List.getElem?_cons_zero, sq_len e2]
      have := ke (cntE s.length) (by unfold widErr; rw [if_neg h]) [some d, some r, b]
      rw [List.length_map]
      exact this
  · intro e he Γ'
    rw [he] at e3
    exact FnExc.here (by
      obtain ⟨s, _, h⟩ := List.exists_of_findSome?_eq_some he
      unfold widErr at h
      split at h
      · cases h
      · cases h; rfl) (qe e e3)
  · rintro he _ ⟨a, b, rfl⟩
    rw [he, Option.none_or] at e3
    obtain ⟨src, hG, hi⟩ := sq_iter (Γ := [some d, a, b]) (fa := dVar 0) r1 (fun _ _ => rfl)
    dsimp only
    rw [hi]
    refine loop_err (fun Γ => ∃ a b, Γ = [some d, a, b]) (fun r => r.findSome? namErr) hG g rows _ ⟨_, _, rfl⟩ r2 ?_ ?_ ?_
    · rintro i s r hs hr _ ⟨a, b, rfl⟩ Kn ke kn
      obtain ⟨r', e1, e2⟩ := r3 i s hs
      rw [hr] at e1; cases e1
      have hv := hsh _ (List.mem_of_getElem? hs)
      simp only [dName, List.set_cons_succ, List.set_cons_zero]
      obtain ⟨src2, hG2, hi2⟩ := sq_iter (Γ := [some d, some r, b]) (fa := dVar 1) e2 (fun _ _ => rfl)
      rw [hi2]
      refine loop_err (fun Γ => ∃ b, Γ = [some d, some r, b]) namErr hG2 s (s.map .str) _ ⟨_, rfl⟩ (by simp) ?_ (fun e he Γ' => ke e he Γ') ?_
      · rintro j x _ hx hx' _ ⟨b, rfl⟩ Kn2 ke2 kn2
        rw [List.getElem?_map, hx] at hx'
        cases hx'
        have hvj := hv _ (List.mem_of_getElem? hx)
        simp only [dName, dIf, dNotT, dTest, dOp, dCons, dNil, dVar, List.set_cons_succ, List.set_cons_zero, List.getElem?_cons_succ, List.getElem?_cons_zero]
        refine ⟨_, rfl, by rw [sizeLine_eq]; omega, ?_⟩
        by_cases h : validN x = true
        · rw [h]
          exact kn2 (by unfold namErr; rw [if_pos h]) _ ⟨_, rfl⟩
        · rw [Bool.not_eq_true] at h
          rw [h]
          simp only [Bool.not_false, cond_true, dRaise, dVar, List.getElem?_cons_succ, List.getElem?_cons_zero]
          exact ke2 _ (by unfold namErr; rw [if_neg (by rw [h]; decide)]) []
      · rintro he _ ⟨b, rfl⟩
        exact kn he _ ⟨_, _, rfl⟩
    · intro e he Γ'
      rw [he] at e3
      refine FnExc.here ?_ (qe e e3)
      obtain ⟨s, _, h⟩ := List.exists_of_findSome?_eq_some he
      obtain ⟨x, _, h⟩ := List.exists_of_findSome?_eq_some h
      unfold namErr at h
      split at h
      · cases h
      · cases h; rfl
    · rintro he _ ⟨a, b, rfl⟩
      rw [he] at e3
      exact FnEnd.here (qn e3)
def S_T_initL (C : Cs) : DSp := fun ds μ Q E => ∃ μ1 d g, ds = [.ref μ1.length, d] ∧ μ = μ1 ++ [.ins C.T []] ∧ TSee μ d g ∧ ShortL g ∧ (errT g = none → Q .non (μ1 ++ [.ins C.T (tabF g)])) ∧ ∀ e, errT g = some e → ∀ c, E e (μ1 ++ [c])
def t_T_initL (C : Cs) : DTS := dSeq (dDrop (dOp S_check_linesL (dCons (dVar 1) (dNil)))) (dSeq (dSetF C.T "rows" (dVar 0) (dCall gTuple (dCons (dComp true [3] (dIter (dVar 1)) (cName 3) (dYes) (dCall gTuple (dCons (dVar 3) dNil))) dNil))) (dSeq (dSetF C.T "columns" (dVar 0) (dOp S_exchanged (dCons (dFld C.T "rows" (dVar 0)) (dNil)))) (dSeq (dAsg (dSortSC true [3, 4] [4] (dIter (dFld C.T "rows" (dVar 0))) (cName 3) (dIter (dVar 3)) (cName 4) (dVar 4)) (dName 2)) (dSeq (dDrop (dOp S_check_numberX (dCons (dCall gLen (dCons (dVar 2) dNil)) (dNil)))) (dSetF C.T "names" (dVar 0) (dCall gTuple (dCons (dVar 2) dNil)))))))
theorem rd_T_initL {C : Cs} {n1 n2 n3 n4 n5 : Str} : ∀ ds μ Q E, S_T_initL C ds μ Q E → t_T_initL C (dFn μ Q E) (start0 [n1, n2, n3, n4, n5] ds) μ := by
  rintro _ _ Q E ⟨μ1, d, g, rfl, rfl, ts, hsh, q, qe⟩
  unfold t_T_initL
  rw [dSeq]
  simp only [dDrop, dOp, dCons, dNil, dVar, start0, List.map_cons, List.map_nil, List.length_cons, List.length_nil, List.replicate, List.cons_append, List.nil_append, List.getElem?_cons_zero, List.getElem?_cons_succ]
  have puE : ∀ e, errT g = some e → D.puF e.fs = true := by
    intro e he
    unfold errT at he
    rw [Option.or_eq_some_iff] at he
    rcases he with he | ⟨_, he⟩
    · unfold linesErr lenErr at he
      simp only [Option.or_eq_some_iff] at he
      rcases he with he | ⟨-, he | ⟨-, he | ⟨-, he⟩⟩⟩
      · split at he
        · cases he
        · cases he; rfl
      · split at he
        · cases he
        · cases he; rfl
      · obtain ⟨s, _, h⟩ := List.exists_of_findSome?_eq_some he
        unfold widErr at h
        split at h
        · cases h
        · cases h; rfl
      · obtain ⟨s, _, h⟩ := List.exists_of_findSome?_eq_some he
        obtain ⟨x, _, h⟩ := List.exists_of_findSome?_eq_some h
        unfold namErr at h
        split at h
        · cases h
        · cases h; rfl
    · split at he
      · cases he
      · cases he; rfl
  refine ⟨d, g, rfl, ts, hsh, fun hle => ?_, fun e he => ?_⟩
  rotate_left
  · have : errT g = some e := by unfold errT; rw [he]; rfl
    exact FnExc.here (puE e this) (qe e this _)
  obtain ⟨⟨a1, a2⟩, ⟨a3, a4⟩, heq, hok⟩ := le_tok hle
  obtain ⟨rows, r1, r2, r3⟩ := id ts
  simp only [dSeq, dSetF, dCall, dCons, dNil, dComp]
  obtain ⟨src, hG, hi⟩ := sq_iter (Γ := [some (.ref μ1.length), some d, none, none, none]) (fa := dVar 1) r1 (fun _ _ => rfl)
  rw [hi]
  simp only [wipeG, List.set_cons_succ, List.set_cons_zero]
  refine comp_list (g.map fun s => .tup (s.map .str)) hG (by rw [r2]; simp) (by rw [r2, sizeLine_eq]; omega) ?_ ?_
  · intro i r y hr hy K1 K2 k1
    have hil : i < g.length := by rw [← r2]; exact (List.getElem?_eq_some_iff.mp hr).1
    obtain ⟨r', e1, e2⟩ := r3 i g[i] (List.getElem?_eq_getElem hil)
    rw [hr] at e1; cases e1
    rw [List.getElem?_map, List.getElem?_eq_getElem hil] at hy
    cases hy
    simp only [cName, dYes, cond_true, dCall, dCons, dNil, dVar, List.set_cons_succ, List.set_cons_zero, List.getElem?_cons_succ, List.getElem?_cons_zero, sq_tuple e2]
    exact k1
  · simp only [dFin, gTuple, lk, dVar, List.getElem?_cons_zero, get_a0, set_a0, putD, dSeq, dSetF, dOp, dCons, dNil, dFld, List.length_nil]
    have lkI : ∀ fs, lk (μ1 ++ [Cell.ins C.T fs]) (.ref μ1.length) = .ins C.T fs := fun fs => by unfold lk; dsimp only; rw [get_a0]
    refine ⟨by first | rfl | trivial, by decide, ?_⟩
    have ne1 : ((Str.ofString "rows") = (Str.ofString "columns")) = False := by simp; decide
    have ne2 : ((Str.ofString "rows") = (Str.ofString "names")) = False := by simp; decide
    have ne3 : ((Str.ofString "columns") = (Str.ofString "names")) = False := by simp; decide
    have look1 : ∀ (x : D) r, List.lookup (Str.ofString "rows") ((Str.ofString "rows", x) :: r) = some x := fun x r => by simp [List.lookup]
    simp only [lkI, get_a0, set_a0, List.getElem?_cons_zero, look1, putD, ne1, if_false, List.length_cons, List.length_nil]
    refine ⟨by first | rfl | trivial, rowsD g, g, rfl, TSee.rows, a1, by omega, by omega, heq, ?_⟩
    simp only [get_a0, set_a0, putD, ne1, if_false, List.length_cons, List.length_nil]
    refine ⟨by first | rfl | trivial, by decide, ?_⟩
    simp only [lkI, get_a0, set_a0, List.getElem?_cons_zero, look1, putD, ne1, if_false, dSeq, dAsg, dSortSC, dIter, dFld, dVar, List.getElem?_cons_zero, List.getElem?_cons_succ, rowsD]
    refine ⟨by first | rfl | trivial, ?_⟩
    simp only [wipeG, List.set_cons_succ, List.set_cons_zero]
    have eqw : g.flatten.length ≤ 64 := by rw [flat_len heq]; exact Nat.mul_le_mul a2 a4
    refine sc_outer (src := none) trivial (by simp) (by simp) (by decide) _ g [] _ (by simp) (fun k s e => ⟨_, by rw [List.getElem?_map, e]; rfl, rfl⟩) (by simp only [List.length_nil]; omega) ?_
    simp only [dFin, dName, List.set_cons_succ, List.set_cons_zero, dSeq, dDrop, dOp, dCons, dNil, dCall, gLen, dVar, List.getElem?_cons_zero, List.getElem?_cons_succ, lk, List.length_map]
    have pos : 1 ≤ (outs g).length := by
      obtain ⟨s, hs, hw⟩ := wid_get0 a1
      obtain ⟨x, hx⟩ : ∃ x, x ∈ s := by
        cases s with
        | nil => simp at hw; omega
        | cons x s => exact ⟨x, by simp⟩
      have : x ∈ outs g := outs_mem.mpr ⟨s, List.mem_of_getElem? hs, hx⟩
      exact List.length_pos_iff.mpr (fun z => by rw [z] at this; cases this)
    refine ⟨((outs g).length : Int), rfl, fun hn => ?_, fun hn => ?_⟩
    · simp only [dSetF, dCall, dCons, dNil, gTuple, dVar, List.getElem?_cons_zero, List.getElem?_cons_succ, lk, get_a0, set_a0, putD, ne2, ne3, if_false, List.length_cons, List.length_nil]
      refine ⟨by first | rfl | trivial, by decide, FnEnd.here (q ?_)⟩
      unfold errT
      rw [hle, Option.none_or, if_pos (by omega)]
    · have : errT g = some (cntE (outs g).length) := by
        unfold errT
        rw [hle, Option.none_or, if_neg (by omega)]
      refine ⟨_, [], (List.append_nil _).symm, ?_, rfl, qe _ this _⟩
      have u := (Upd.refl (μ1 ++ [Cell.ins C.T []])).set (l := μ1.length) (c := Cell.ins C.T [(Str.ofString "rows", rowsD g), (Str.ofString "columns", rowsD (flip g))]) (pu_tab2 C g (flip g))
      rw [set_a0] at u
      exact u
end DV
/-! isinstance(e, an own error class), e the error that the suite holds. -/
namespace DV
open PySem PySem.Spec PyProof.Rows L2
def isxB (k : EK) (x : Str) (K : PySem.W.Frag) : Bool := (PySem.W.clsIn K (xa K k)).isSome && (He.eqO (PySem.W.findIn K (.ref (xa K k)) "__getattribute__") (some (some (.builtin "BaseException.__getattribute__"))) && (He.eqO (PySem.W.findIn K (.ref (xa K k)) "__getattr__") (some none) &&
  (decide (PySem.W.subIn K (.ref (xa K k)) (.type "BaseException") = some true) && (He.eqO (PySem.W.findIn K (.ref (xa K k)) "__class__") (some (some (.builtin "object.__class__"))) && (He.eqO (PySem.W.specialIn K (.builtin "object.__class__") "__get__") (some (some (.builtin "getset_descriptor.__get__"))) &&
  (decide (PySem.W.takesIn K (.builtin "object.__class__") = some true) && (decide (PySem.W.mroIn K (xa K k) (.type "object") = some true) && decide (PySem.W.kitOne K (.ref (xa K k)) (.ref (He.ga K x)) = some true))))))))
structure IsX (K : PySem.W.Frag) (k : EK) (B : Addr) : Prop where
  cl : (PySem.W.clsIn K (xa K k)).isSome = true
  ga : PySem.W.findIn K (.ref (xa K k)) "__getattribute__" = some (some (.builtin "BaseException.__getattribute__"))
  gg : PySem.W.findIn K (.ref (xa K k)) "__getattr__" = some none
  sb : PySem.W.subIn K (.ref (xa K k)) (.type "BaseException") = some true
  ha : PySem.W.findIn K (.ref (xa K k)) "__class__" = some (some (.builtin "object.__class__"))
  hn : PySem.W.specialIn K (.builtin "object.__class__") "__get__" = some (some (.builtin "getset_descriptor.__get__"))
  ht : PySem.W.takesIn K (.builtin "object.__class__") = some true
  hm : PySem.W.mroIn K (xa K k) (.type "object") = some true
  is : PySem.W.kitOne K (.ref (xa K k)) (.ref B) = some true
theorem isxB_ok {k : EK} {x : Str} {K : PySem.W.Frag} (h : isxB k x K = true) : IsX K k (He.ga K x) := by
  obtain ⟨h1, h⟩ := He.ba h
  obtain ⟨h2, h⟩ := He.ba h
  obtain ⟨h3, h⟩ := He.ba h
  obtain ⟨h4, h⟩ := He.ba h
  obtain ⟨h5, h⟩ := He.ba h
  obtain ⟨h6, h⟩ := He.ba h
  obtain ⟨h7, h⟩ := He.ba h
  obtain ⟨h8, h9⟩ := He.ba h
  exact ⟨h1, He.eqO_ok h2, He.eqO_ok h3, of_decide_eq_true h4, He.eqO_ok h5, He.eqO_ok h6, of_decide_eq_true h7, of_decide_eq_true h8, of_decide_eq_true h9⟩
section
variable {X : Cx} {W : WX} {p pos p2 : Pos}
def rIsX (a dd B : Addr) : List V → Hp → VK → Prop := fun xs H Q => xs = [.ref a, .ref B] ∧ (∃ us, H dd = some (.xd us)) ∧ Q (.bl true) H
theorem call_isX {a dd B : Addr} {k : EK} {oe : Obj} {pn : List (Addr × Obj)} (C : IsX X.K k B) (hz : Zc (.ref (xa X.K k)) (some dd) oe) (hf : ∃ vs, oe.data = .fields vs) : CallR (X.suite a ((a, oe) :: pn)) (.builtin "isinstance") (rIsX a dd B) := by
  intro pins s σ H xs us Q I r h
  obtain ⟨rfl, ⟨fs, ea⟩, q⟩ := h
  cases r with
  | cons rx rr =>
    cases rr with
    | cons rt rr =>
      cases rr
      cases rx
      cases rt
      obtain ⟨hget, _⟩ := I.pin (a, oe) (List.mem_append.mpr (.inl List.mem_cons_self))
      obtain ⟨vs, hv⟩ := hf
      have hx : ObjOk X.prog X.w H s.heap dd (.xd fs) := I.hok dd _ ea
      obtain ⟨mA, hns, hr⟩ := hx
      obtain ⟨od, ho, hl⟩ := lookIn_ns hns
      have J : PySem.W.InstAt s.heap a oe (xa X.K k) (some od) := ⟨hget, hz.1, by unfold PySem.W.notCls; rw [hv] <;> rfl, by rw [hz.2]; exact ho⟩
      exact PySem.W.kia_one (PySem.W.kitx_exc C.cl C.ga C.gg C.sb C.ha C.hn C.ht C.hm) I.kIn J C.is (fun z => nomatch z) fun tk => ⟨.bl true, H, I.kept (t' := tk) fun _ _ z => z, rfl, q⟩
def dIsX (a dd : Addr) (l : Nat) (fe : DTE) : DTE := fun Γ μ Q E => fe Γ μ (fun v μ1 => v = .cls a ∧ (∃ fs, μ1[l]? = some (.exc dd fs)) ∧ Q (.bl true) μ1) E
theorem de_isX {a dd B : Addr} {l : Nat} {oe : Obj} {pn : List (Addr × Obj)} {e : Expr} {fe : DTE} {x : Str} {k : EK} (C : IsX X.K k B) (hz : Zc (.ref (xa X.K k)) (some dd) oe) (hf : ∃ vs, oe.data = .fields vs)
    (hg : Gl (X.suite a ((a, oe) :: pn)) "isinstance") (hm : X.mg "isinstance" = none) (he : DE (X.suite a ((a, oe) :: pn)) W e fe) (hgT : Gl (X.suite a ((a, oe) :: pn)) x) (hmT : X.mg x = some (.ref B)) (hd : (x == ("__debug__" : Str)) = false := by decide)
    (hs : starEach [e, .Name x p2] X.env = (false, eval e X.env) :: starEach [.Name x p2] X.env := by rfl) (hs2 : starEach [.Name x p2] X.env = (false, eval (.Name x p2) X.env) :: starEach [] X.env := by rfl) (hpl : (backTo pos (starEach [.Name x p2] X.env)).any (·.1) = false := by rfl) :
    DE (X.suite a ((a, oe) :: pn)) W (.Call (.Name "isinstance" p) [e, .Name x p2] [] pos) (dIsX a dd l fe) :=
  PE.imp (pe_callB (call_isX C hz hf) hg hm (by decide +kernel) (pa_cons he (pa_cons (pe_glob (v := .ref B) hgT hmT rfl hd) pa_nil hs2) hs) (by decide) (by decide) hs hpl) fun σ H Q ⟨n, Γ, μ, Qd, Ed, hH, sr, gr, h, hq, hx⟩ => by
  subst hH
  refine lift_go sr gr h (fun n1 x dx μ1 s1 r1 p1 q1 => ?_) hx
  obtain ⟨rfl, ⟨fs, e1⟩, q1⟩ := q1
  cases p1
  have hl : l < n1.al.length := by rw [r1.len]; exact (List.getElem?_eq_some_iff.mp e1).1
  obtain ⟨_, rfl, us, h1, _, _⟩ := r1.cell l n1.al[l] _ (List.getElem?_eq_getElem hl) e1
  exact ⟨rfl, ⟨us, h1⟩, hq n1 _ _ μ1 s1 r1 (.bl _) q1⟩
end
end DV
/-! x.split(sep) -/
namespace DV
open PySem PySem.Spec PyProof.Rows L2
section
variable {X : Cx} {W : WX} {o e : Expr} {fa fb : DTE} {pos apos : Pos}
def dSplit (fz : Bool) (fo fe : DTE) : DTE := fun Γ μ Q E => fo Γ μ (fun x μ1 => ∃ a : Str, x = .str a ∧ fe Γ μ1 (fun y μ2 => ∃ b : Str, y = .str b ∧ (b.length == 0) = false ∧ a.length + 2 ≤ sizeLine ∧ dFin fz ((Txt.split a b).map .str) μ2 Q) E) E
theorem de_split (fz : Bool) (ho : DE X W o fa) (he : DE X W e fb) (hs : starEach [e] X.env = [(false, eval e X.env)] := by rfl) (hbase : attributeBase o "split" X.env (eval o X.env) = eval o X.env := by rfl) (hline : (apos.endLine == pos.line) = true := by rfl) :
    DE X W (.Call (.Attribute o "split" apos) [e] [] pos) (dSplit fz fa fb) :=
  PE.imp (pe_split ho he hs hbase hline) fun σ H Q ⟨n, Γ, μ, Qd, Ed, hH, sr, gr, h, hq, hx⟩ => by
  subst hH
  refine lift_go sr gr h (fun n1 x dx μ1 s1 r1 p1 q1 => ?_) hx
  obtain ⟨a, rfl, q1⟩ := q1
  cases p1
  refine ⟨⟨a, rfl⟩, lift_go r1 (gr.step s1) q1 (fun n2 y dy μ2 s2 r2 p2 q2 => ?_) (hx.step s1)⟩
  obtain ⟨b, rfl, hb, hz, q2⟩ := q2
  cases p2
  refine ⟨a, b, rfl, rfl, hb, hz, fun p hp => ?_⟩
  exact fin_lst (fun n' v d μ' st sr' rp q' => hq n' v d μ' ((s1.trans s2).trans st) sr' rp q') r2 hp (reps_strs _) q2
end
end DV
/-! the kit's laws about splitting and joining texts come in here -/

/-! Class methods called with keywords. -/
namespace DV
open PySem PySem.Spec PyProof.Rows L2 ClX
def HasCk (P : Program) (w : World) (K : PySem.W.Frag) (mg : Str → Option Value) (base : Heap) (C : Addr) (m : Str) (k : Nat) (ps : List Str) (S : DSp) (kb : FuncData → Prop) : Prop :=
  ∃ (pr : Addr) (mc : Value) (f : Addr) (fd : FuncData), CRead K C mc ∧ CMet K C mc m pr f ∧ Binds K fd ps [] ∧ kb fd ∧ FnOk P w K mg base (L2.CX P w) k f fd ps (spOf K S)
theorem HasCk.i {P : Program} {w : World} {K : PySem.W.Frag} {mg : Str → Option Value} {base : Heap} {C : Addr} {m : Str} {k : Nat} {ps : List Str} {S : DSp} {kb : FuncData → Prop} (h : HasCk P w K mg base C m k ps S kb) : HasC P w K mg base C m k ps S :=
  let ⟨pr, mc, f, fd, h1, h2, h3, _, h5⟩ := h
  ⟨pr, mc, f, fd, h1, h2, h3, h5⟩
section
variable {X : Cx} {W : WX} {k : Nat} {C : Addr} {ps ks : List Str} {S : DSp} {m : Str} {pos apos : Pos} {o : Expr} {kws : List Keyword} {fo : DTE} {fk : DTA} {π : List Nat} {nk : Nat} {kb : FuncData → Prop}
theorem de_cmethK0 {pl : Sem Bool} (h : HasCk X.prog X.w X.K X.mg X.base C m k ps S kb) (hr : Room k X.A) (hb : ∀ fd, kb fd → KBd X.K fd ps 1 ks (up1 π)) (tk : Takes X W) (he : DE X W o fo) (hkw : DK X W kws fk)
    (hall : (backToKw pos (keywordEach kws X.env)).all (·.1.isSome) = true := by rfl) (hks : (backToKw pos (keywordEach kws X.env)).filterMap (·.1) = ks := by rfl) (hnk : ks.length = nk := by rfl)
    (hpl : ((backTo pos (starEach [] X.env)).any (·.1) || (backToKw pos (keywordEach kws X.env)).any (·.1.isNone)) = false := by rfl)
    (ht : eval (.Call (.Attribute o m apos) [] kws pos) X.env = (do let ov ← eval o X.env; standAt apos.atName; let (f, first) ← holding [ov] (getMethod ov m pl); callWith pos f first (backTo pos (starEach [] X.env)) (backToKw pos (keywordEach kws X.env))) := by rfl) :
    DE X W (.Call (.Attribute o m apos) [] kws pos) (dCMeth C S fo (dArgK π 0 nk dNil fk)) := by
  subst hnk
  obtain ⟨pr, mc, g, fd, r, c, _, hkb, F⟩ := h
  have hb := hb fd hkb
  refine ⟨fun pins s σ H Q I ⟨n, Γ, μ, Qd, Ed, hH, sr, gr, h, hq, hx⟩ => ?_⟩
  subst hH
  let R : V → Hp → Prop := fun v H1 => ∃ n1 d μ1, n1.H = H1 ∧ SR0 X.K n1 μ1 ∧ Rep X.K n1.Hb n1.al v d ∧ Step n n1 ∧ d = .cls C ∧ fk Γ μ1 (fun ys μ2 => ys.length = ks.length ∧ S (.cls C :: pick π ys) μ2 Qd Ed) Ed
  refine PySem.W.methodCall_KW (pl := pl) (thn (he.run pins s σ n.H R I (lift_go sr gr h (fun n1 v d μ1 s1 r1 p1 q1 => ⟨n1, d, μ1, rfl, r1, p1, s1, q1.1, q1.2.2⟩) hx)) ?_) ht
  rintro u s1 ⟨v, H1, I1, rv, n1, d, μ1, rfl, r1, p1, s1', rfl, q1⟩
  cases p1
  cases rv
  refine getmethcm_ok I1 r c fun s2 I2 => ?_
  refine PySem.W.callWith_of hpl (PySem.W.keeps_M (self := .ref C) c.fi) (evalArgs_kw2_nil hall (thn (hkw.run pos _ s2 σ n1.H (fun vs H2 => vs.length = ks.length ∧ spOf X.K S (.ref C :: pick π vs) H2 Q (WE W σ)) I2 (liftA_go r1 (gr.step s1') q1 (fun n2 vs ds μ2 s2 r2 p2 q2 => ?_) (hx.step s1'))) ?_))
  · exact ⟨p2.length.trans q2.1, n2, .cls C :: pick π ds, μ2, Qd, Ed, rfl, r2, .cons (.cls C) (p2.pick π), q2.2, LV.step hq (s1'.trans s2), (hx.step s1').step s2⟩
  · rintro ws s3 ⟨vs, H2, I3, r, hl, q2⟩
    rw [hks]
    refine ⟨⟨pin_at I3, I3.kIn⟩, ?_⟩
    have rr : Vals (V.ref C :: pick π vs) (Value.ref C :: pick π ws) := .cons rfl (vals_pick r π)
    refine thn (Q := EP X ((s1.heap.objs.size, PySem.W.methodObj (.ref g) (.ref C)) :: pins) σ Q) (wpAny_call (PySem.W.method_call (pin_at I3) (codeAny_mono (F.run X.A X.stack s3 H2 ⟨[.ref C], ks.zip ws⟩ (.ref C :: pick π ws) (.ref C :: pick π vs) Q (WE W σ) hr I3.env0 (kb_self (np := 0) (us := []) hb I3.kIn rfl (r.length ▸ hl) (.ref C)) rr q2) fun res s' hq' => ?_))) fun _ _ y => unpinE y
    match res, hq' with
    | .error e, hq' => exact passAt tk σ _ _ _ e s' I3 hq'
    | .ok (.ret u), hq' => exact I3.after hq'
end
end DV
local macro_rules | `(tactic| walk_at "dv") => `(tactic| try simp only [DV.dSeq, DV.dIf, DV.dOrT, DV.dAndT, DV.dNotT, DV.dTest, DV.dChain, DV.dC, DV.dCall, DV.gLen, DV.dCons, DV.dVar, DV.dNil, DV.dBin, DV.dUn, DV.gNeg, DV.gIn, DV.gIx, DV.dRet, DV.dRetN, DV.dNext, DV.dFor, DV.dIter, DV.dName, DV.lk, DV.dAsg, DV.dDrop, DV.gLst, DV.gTup, DV.gLstM, DV.gAdd, DV.gI, DV.gMod, DV.gMul, DV.gFdiv, DV.gPow, DV.gAbs, DV.gInt, DV.gList, DV.gTuple, DV.dOp, DV.dOpK, DV.dIsi, DV.tyD, DV.gIs, DV.gIsNot, DV.D.isN, DV.dJoin, DV.dCellM, DV.dSetI, DV.dSlice, DV.dPart, DV.dNoPart, DV.dRevA, DV.dFin, DV.dAugI, DV.dComp, DV.wipeG, DV.cName, DV.cPair, DV.dYes, DV.dRange1, DV.dRange2, DV.dAnd, DV.dOr, DV.dNot, DV.dIfE, DV.gEq, DV.gNe, DV.sgn_one, DV.atI_zero, DV.dTruth, DV.truD, DV.dBreak, DV.dCont, DV.gSorted, DV.dSortK, DV.dRevT, DV.gInD, DV.gIsB, DV.gStr, DV.dPop0, DV.dDict, DV.dPairs, DV.keysD, DV.keyOfD, DV.dFinD, DV.dFld, DV.dSetF, DV.dMake, DV.dMethod, DV.dProp, DV.dOwnIx, DV.dNever, DV.gMulM, DV.gAddM, DV.gMax2, DV.dPair, DV.gDGet, DV.dSetD, DV.dDict0, DV.dComp2, DV.dSortSC, DV.isIns, DV.insOf,
  List.getElem?_cons_zero, List.getElem?_cons_succ, List.set_cons_zero, List.set_cons_succ, List.map_cons, List.map_nil, List.length_cons, List.length_nil, List.replicate, Nat.sub_self, List.append_nil, List.cons_append, List.nil_append, DV.start0, if_true, if_false, Bool.not_true, Bool.not_false, Bool.false_eq_true, Bool.true_and, Bool.and_true, Bool.or_true, Bool.true_or, Bool.false_or, Bool.or_false, eq_self_iff_true, not_true_eq_false, not_false_eq_true, ite_true, ite_false, cond_true, cond_false])
namespace DV
open PySem PySem.Spec PyProof.Rows L2
/-! splitting and joining of texts -/
theorem spl_ne {S : List Nat} : ∀ (l : List Nat) (k : Nat) (acc : List Nat), TL.spl S k acc l ≠ []
  | [], k, acc => by rw [TL.spl_nil]; simp
  | c :: r, k + 1, acc => spl_ne r k acc
  | c :: r, 0, acc => by
    show (if TL.pre S (c :: r) = true then acc :: TL.spl S (S.length - 1) [] r else TL.spl S 0 (acc ++ [c]) r) ≠ []
    split
    · simp
    · exact spl_ne r 0 _
theorem joinL_cons {S t : List Nat} {ts : List (List Nat)} (h : ts ≠ []) : TL.joinL S (t :: ts) = t ++ (S ++ TL.joinL S ts) := by
  cases ts with
  | nil => exact absurd rfl h
  | cons u ts => rw [TL.joinL]
theorem joinL_spl {S : List Nat} (hS : S ≠ []) : ∀ (l : List Nat) (k : Nat) (acc : List Nat), TL.joinL S (TL.spl S k acc l) = acc ++ l.drop k
  | [], k, acc => by rw [TL.spl_nil, List.drop_nil, List.append_nil]; rfl
  | c :: r, k + 1, acc => joinL_spl hS r k acc
  | c :: r, 0, acc => by
    show TL.joinL S (if TL.pre S (c :: r) = true then acc :: TL.spl S (S.length - 1) [] r else TL.spl S 0 (acc ++ [c]) r) = _
    by_cases h : TL.pre S (c :: r) = true
    · rw [if_pos h, joinL_cons (spl_ne _ _ _), joinL_spl hS r]
      have e : (c :: r).take S.length = S := by
        unfold TL.pre at h
        exact eq_of_beq h
      have e2 := List.take_append_drop S.length (c :: r)
      rw [e] at e2
      obtain ⟨s0, sr, rfl⟩ : ∃ a b, S = a :: b := by cases S with | nil => exact absurd rfl hS | cons a b => exact ⟨a, b, rfl⟩
      rw [List.length_cons, List.drop_succ_cons] at e2
      rw [List.length_cons, Nat.add_sub_cancel, List.nil_append]
      rw [List.cons_append] at e2 ⊢
      exact congrArg (acc ++ ·) (by simpa using e2)
    · rw [if_neg h, joinL_spl hS r, List.append_assoc]; rfl
theorem spl_mem {S : List Nat} : ∀ (l : List Nat) (k : Nat) (acc : List Nat), ∀ p ∈ TL.spl S k acc l, ∀ c ∈ p, c ∈ acc ∨ c ∈ l
  | [], k, acc, p, hp, c, hc => by
    rw [TL.spl_nil, List.mem_singleton] at hp
    subst hp; exact .inl hc
  | d :: r, k + 1, acc, p, hp, c, hc => (spl_mem r k acc p hp c hc).imp id (List.mem_cons_of_mem _)
  | d :: r, 0, acc, p, hp, c, hc => by
    have hp : p ∈ (if TL.pre S (d :: r) = true then acc :: TL.spl S (S.length - 1) [] r else TL.spl S 0 (acc ++ [d]) r) := hp
    split at hp
    · rcases List.mem_cons.mp hp with rfl | hp
      · exact .inl hc
      · rcases spl_mem r _ [] p hp c hc with h | h
        · cases h
        · exact .inr (List.mem_cons_of_mem _ h)
    · rcases spl_mem r 0 _ p hp c hc with h | h
      · rcases List.mem_append.mp h with h | h
        · exact .inl h
        · rw [List.mem_singleton.mp h]; exact .inr List.mem_cons_self
      · exact .inr (List.mem_cons_of_mem _ h)
theorem joinL_len {S : List Nat} : ∀ {ts : List (List Nat)}, ts ≠ [] → (TL.joinL S ts).length + S.length = (ts.map (·.length)).sum + ts.length * S.length
  | [], h => absurd rfl h
  | [t], _ => by simp [TL.joinL]
  | t :: u :: ts, _ => by
    rw [joinL_cons (by simp)]
    have ih := joinL_len (S := S) (ts := u :: ts) (by simp)
    simp only [List.length_append, List.map_cons, List.sum_cons, List.length_cons, Nat.add_mul] at *
    omega
/-- a separator -/
structure SepOk (b : Str) : Prop where
  ne : b.cps.toList ≠ []
  k : b.cps.toList.all (· < 256) = true
  l : (b.length == 0) = false
  a : asc b
  n : 1 ≤ b.length ∧ b.length ≤ 3
theorem sep1 : SepOk (Str.ofString " ") := ⟨by decide +kernel, by decide +kernel, by decide +kernel, asc_dec (by decide +kernel), by decide +kernel⟩
theorem sep3 : SepOk (Str.ofString " / ") := ⟨by decide +kernel, by decide +kernel, by decide +kernel, asc_dec (by decide +kernel), by decide +kernel⟩
theorem split_tl {b : Str} (hb : SepOk b) (a : Str) : (Txt.split a b).map TL.tl = TL.spl b.cps.toList 0 [] a.cps.toList := by
  have := SX.split_S (a := a.cps.toList) hb.ne hb.k
  rw [SX.S_tl, SX.S_tl] at this
  rw [this, SX.map_S_tl]
theorem split_ne {b : Str} (hb : SepOk b) (a : Str) : Txt.split a b ≠ [] := fun z => by
  have := split_tl hb a
  rw [z] at this
  exact spl_ne _ _ _ this.symm
theorem join_tl (b : Str) (ts : List Str) : (Txt.join b ts).cps.toList = TL.joinL b.cps.toList (ts.map TL.tl) := by
  rw [TL.join_eq]
  exact TL.tl_join b ts
theorem split_join {b : Str} (hb : SepOk b) (a : Str) : Txt.join b (Txt.split a b) = a := by
  refine str_ext2 ?_
  rw [join_tl, split_tl hb, joinL_spl hb.ne]; rfl
theorem sum_tl (ts : List Str) : ((ts.map TL.tl).map (·.length)).sum = (ts.map (·.length)).sum := by
  rw [List.map_map]
  congr 1
theorem join_len {b : Str} {ts : List Str} (h : ts ≠ []) : (Txt.join b ts).length + b.length = (ts.map (·.length)).sum + ts.length * b.length := by
  have e := joinL_len (S := b.cps.toList) (ts := ts.map TL.tl) (by simpa using h)
  rw [← join_tl, sum_tl, List.length_map] at e
  have e1 : (Txt.join b ts).cps.toList.length = (Txt.join b ts).length := Array.length_toList
  have e2 : b.cps.toList.length = b.length := Array.length_toList
  rw [e1, e2] at e
  exact e
theorem join_nil (b : Str) : (Txt.join b []).length = 0 := by
  have e := join_tl b []
  have e1 : (Txt.join b []).cps.toList.length = (Txt.join b []).length := Array.length_toList
  rw [← e1, e]; rfl
theorem split_len {b : Str} (hb : SepOk b) (a : Str) : ((Txt.split a b).map (·.length)).sum + (Txt.split a b).length * b.length = a.length + b.length := by
  have := join_len (b := b) (split_ne hb a)
  rw [split_join hb] at this
  exact this.symm
theorem split_asc {b : Str} (hb : SepOk b) {a : Str} (ha : asc a) : ∀ p ∈ Txt.split a b, asc p := fun p hp c hc => by
  have hm : TL.tl p ∈ (Txt.split a b).map TL.tl := List.mem_map.mpr ⟨p, hp, rfl⟩
  rw [split_tl hb] at hm
  rcases spl_mem _ _ _ _ hm c hc with h | h
  · cases h
  · exact ha c h
theorem sum_mem : ∀ {ts : List Str} {p : Str}, p ∈ ts → p.length ≤ (ts.map (·.length)).sum
  | t :: ts, p, h => by
    rw [List.map_cons, List.sum_cons]
    rcases List.mem_cons.mp h with rfl | h
    · omega
    · have := sum_mem h; omega
theorem split_le2 {b : Str} (hb : SepOk b) (a : Str) : ((Txt.split a b).map (·.length)).sum ≤ a.length ∧ (Txt.split a b).length ≤ a.length + 1 ∧ ∀ p ∈ Txt.split a b, p.length ≤ a.length := by
  have h := split_len hb a
  have hn : 1 ≤ (Txt.split a b).length := by cases e : Txt.split a b with | nil => exact absurd e (split_ne hb a) | cons x r => simp
  have h1 := hb.n.1
  have h2 := hb.n.2
  have m1 : (Txt.split a b).length * 1 ≤ (Txt.split a b).length * b.length := Nat.mul_le_mul (Nat.le_refl _) h1
  have m2 : 1 * b.length ≤ (Txt.split a b).length * b.length := Nat.mul_le_mul hn (Nat.le_refl _)
  have m3 : (Txt.split a b).length ≤ a.length + 1 := by
    have : b.length = 1 ∨ b.length = 2 ∨ b.length = 3 := by omega
    rcases this with e | e | e <;> rw [e] at h <;> omega
  have m4 : ((Txt.split a b).map (·.length)).sum ≤ a.length := by omega
  exact ⟨m4, m3, fun p hp => Nat.le_trans (sum_mem hp) m4⟩
/-! the rows that a text writes -/
def rowsW (w : Str) : List (List Str) := (Txt.split w " / ").map fun p => Txt.split p " "
def isWord (x : Str) : Bool := !decide (x = Str.ofString "") && (!decide (47 ∈ x.cps.toList) && !decide (10 ∈ x.cps.toList))
def badW (w : Str) : Bool := (rowsW w).any fun r => r.any fun x => !isWord x
theorem rowsW_join (w : Str) : strT (rowsW w) = w := by
  unfold strT rowsW
  rw [List.map_map]
  have : ((fun r => Txt.join (Str.ofString " ") r) ∘ fun p => Txt.split p (Str.ofString " ")) = id := by
    funext p
    exact split_join sep1 p
  rw [show (Txt.split w (Str.ofString " / ")).map ((fun r => Txt.join (Str.ofString " ") r) ∘ fun p => Txt.split p (Str.ofString " ")) = Txt.split w (Str.ofString " / ") from by rw [this, List.map_id]]
  exact split_join sep3 w
theorem rowsW_ok {w : Str} (hw : asc w) : (rowsW w).length ≤ w.length + 1 ∧ (∀ r ∈ rowsW w, r.length ≤ w.length + 1) ∧ ∀ r ∈ rowsW w, ∀ x ∈ r, asc x ∧ x.length ≤ w.length := by
  obtain ⟨h1, h2, h3⟩ := split_le2 sep3 w
  refine ⟨by unfold rowsW; rw [List.length_map]; exact h2, fun r hr => ?_, fun r hr x hx => ?_⟩
  · obtain ⟨p, hp, rfl⟩ := List.mem_map.mp hr
    obtain ⟨_, g2, _⟩ := split_le2 sep1 p
    have := h3 p hp
    exact Nat.le_trans g2 (by omega)
  · obtain ⟨p, hp, rfl⟩ := List.mem_map.mp hr
    obtain ⟨_, _, g3⟩ := split_le2 sep1 p
    exact ⟨split_asc sep1 (split_asc sep3 hw p hp) x hx, Nat.le_trans (g3 x hx) (h3 p hp)⟩
end DV
namespace DV
open PySem PySem.Spec PyProof.Rows L2
def S_is_word : DSp := fun ds μ Q _ => ∃ x, ds = [.str x] ∧ asc x ∧ Q (.bl (isWord x)) μ
def t_is_word : DTS := dRet (dAnd (dBin gNe (dVar 0) (dC (.str ""))) (dAnd (dBin (gIn true) (dC (.str "/")) (dVar 0)) (dBin (gIn true) (dC (.str "\n")) (dVar 0))))
theorem sg47 : sgn (Str.ofString "/") = some 47 := by decide +kernel
theorem sg10 : sgn (Str.ofString "\n") = some 10 := by decide +kernel
theorem asc0 : asc (Str.ofString "") := asc_dec (by decide +kernel)
theorem rd_is_word {n1 : Str} : ∀ ds μ Q E, S_is_word ds μ Q E → t_is_word (dFn μ Q E) (start0 [n1] ds) μ := by
  rintro _ μ Q E ⟨x, rfl, hx, q⟩
  unfold isWord at q
  unfold t_is_word
  obtain ⟨d1, d2⟩ := deq_str (μ := μ) hx asc0
  simp only [dRet, dAnd, dBin, dC, dVar, start0, List.map_cons, List.map_nil, List.length_cons, List.length_nil, List.replicate, Nat.sub_self, List.append_nil, List.getElem?_cons_zero, gNe]
  refine ⟨d1, ?_⟩
  rw [d2]
  by_cases h0 : x = Str.ofString ""
  · rw [decide_eq_true h0] at q ⊢
    exact FnEnd.here q
  rw [decide_eq_false h0] at q ⊢
  simp only [Bool.not_false, cond_true, gIn, lk, sg47, sg10, if_true]
  simp only [Bool.not_false, Bool.true_and] at q
  by_cases h1 : 47 ∈ x.cps.toList
  · rw [decide_eq_true h1] at q ⊢
    exact FnEnd.here q
  rw [decide_eq_false h1] at q ⊢
  simp only [Bool.not_false, cond_true]
  simp only [Bool.not_false, Bool.true_and] at q
  exact FnEnd.here q
theorem make_tabL {C : Cs} {μ : Mu} {g : List (List Str)} {d : D} {R : List (Str × D) → Mu → Prop} {E : Exn → Mu → Prop} (ht : ∀ e, TSee (μ ++ e) d g) (hs : ShortL g) (q : errT g = none → R (tabF g) μ) (qe : ∀ e, errT g = some e → D.puF e.fs = true ∧ E e μ) :
    S_T_initL C (.ref μ.length :: [d]) (μ ++ [.ins C.T []]) (fun r μ2 => r = .non ∧ ∃ fs μ3, μ2 = μ3 ++ [.ins C.T fs] ∧ Upd μ μ3 ∧ D.puF fs = true ∧ R fs μ3) (fun x μ2 => ∃ c μ3, μ2 = μ3 ++ [c] ∧ Upd μ μ3 ∧ D.puF x.fs = true ∧ E x μ3) :=
  ⟨μ, d, g, rfl, rfl, ht _, hs, fun h => ⟨rfl, tabF g, μ, rfl, Upd.refl μ, puF_tab, q h⟩, fun e he c => ⟨c, μ, rfl, Upd.refl μ, (qe e he).1, (qe e he).2⟩⟩
theorem make_tabV {C : Cs} {μ : Mu} {g : List (List Str)} {d : D} {Q : D → Mu → Prop} {E : Exn → Mu → Prop} (ht : ∀ e, TSee (μ ++ e) d g) (hs : ShortL g) (q : errT g = none → Q (tabD C g) μ) (qe : ∀ e, errT g = some e → D.puF e.fs = true ∧ E e μ) :
    S_T_initL C (.ref μ.length :: [d]) (μ ++ [.ins C.T []]) (fun r μ2 => r = .non ∧ ∃ e loc μ3, μ2 = μ3 ++ loc ∧ Upd μ μ3 ∧ Fz μ3.length (μ3 ++ loc) (.ref μ.length) e ∧ Q e μ3) (fun x μ2 => ∃ loc μ3, μ2 = μ3 ++ loc ∧ Upd μ μ3 ∧ D.puF x.fs = true ∧ E x μ3) :=
  ⟨μ, d, g, rfl, rfl, ht _, hs, fun h => by
    refine ⟨rfl, tabD C g, [.ins C.T (tabF g)], μ, rfl, Upd.refl μ, ?_, q h⟩
    have hp : D.puF (tabF g) = true := puF_tab
    rw [puF_eq] at hp
    have f := Fz.icell (m := μ.length) (μ := μ ++ [Cell.ins C.T (tabF g)]) (Nat.le_refl _) get_a0 (fz_pu hp)
    have ez : ((tabF g).map (·.1)).zip ((tabF g).map (·.2)) = tabF g := zip_maps _ _ rfl
    rw [ez] at f
    exact f, fun e he c => ⟨[c], μ, rfl, Upd.refl μ, (qe e he).1, (qe e he).2⟩⟩
theorem errT_pu {g : List (List Str)} {e : Exn} (h : errT g = some e) : D.puF e.fs = true := by
  rcases errT_form h with ⟨k, rfl⟩ | ⟨x, _, rfl⟩ <;> rfl
theorem rowsW_short {w : Str} (hw : asc w) (hl : w.length ≤ 10000) : ShortL (rowsW w) := fun r hr x hx => by have := ((rowsW_ok hw).2.2 r hr x hx).2; omega
/-- the rows that are read -/
theorem rowsW_comp {w : Str} {v vt : Nat} {Γ : Gam} {μ : Mu} {Q : D → Mu → Prop} {E : Exn → Mu → Prop} (hl : w.length ≤ 10000) (g1 : Γ[vt]? = some (some (.str w))) (hv : v < Γ.length) (q : Q (.lst ((rowsW w).map lstS)) μ) :
    dComp true [v] (dIter (dSplit true (dVar vt) (dC (.str " / ")))) (cName v) (dYes) (dSplit true (dVar v) (dC (.str " "))) Γ μ Q E := by
  obtain ⟨h1, h2, h3⟩ := split_le2 sep3 w
  unfold dComp
  simp only [dIter, dSplit, dVar, dC, g1]
  refine ⟨w, rfl, _, rfl, sep3.l, by rw [sizeLine_eq]; omega, ?_⟩
  simp only [dFin]
  refine comp_list (src := none) ((rowsW w).map lstS) trivial (by unfold rowsW; simp) (by rw [List.length_map, sizeLine_eq]; omega) ?_ (by first | exact q | (simp only [dFin]; exact q))
  intro j x y hx hy K1 K2 k1
  unfold rowsW at hy
  rw [List.getElem?_map] at hx
  rw [List.getElem?_map, List.getElem?_map] at hy
  cases hj : (Txt.split w (Str.ofString " / "))[j]? with
  | none => rw [hj] at hx; cases hx
  | some p =>
    rw [hj] at hx hy
    cases hx; cases hy
    have hp := h3 p (List.mem_of_getElem? hj)
    have ew : (wipeG Γ [v]).length = Γ.length := by simp [wipeG]
    have e1 : ((wipeG Γ [v]).set v (some (D.str p)))[v]? = some (some (.str p)) := List.getElem?_set_self (by rw [ew]; exact hv)
    simp only [cName, dYes, cond_true, dSplit, dVar, dC, e1]
    refine ⟨p, rfl, _, rfl, sep1.l, by rw [sizeLine_eq]; omega, ?_⟩
    simp only [dFin]
    exact k1
def S_T_read (C : Cs) : DSp := fun ds μ Q E => ∃ w, ds = [.cls C.T, .str w] ∧ asc w ∧ w.length ≤ 10000 ∧ (badW w = true → E ⟨.BadText, [("text", .str w)]⟩ μ) ∧ (badW w = false → (∀ e, errT (rowsW w) = some e → E e μ) ∧ (errT (rowsW w) = none → Q (tabD C (rowsW w)) μ))
def t_T_read (C : Cs) : DTS := dSeq (dAsg (dComp true [3] (dIter (dSplit true (dVar 1) (dC (.str " / ")))) (cName 3) (dYes) (dSplit true (dVar 3) (dC (.str " ")))) (dName 2)) (dSeq (dFor (dIter (dVar 2)) (dName 3) (dFor (dIter (dVar 3)) (dName 4) (dIf (dNotT (dTest (dOp S_is_word (dCons (dVar 4) (dNil))))) (dRaise .BadText "text" (dVar 1)) (dNext)))) (dRet (dMakeV 0 C.T (S_T_initL C) (dCons (dVar 2) (dNil)))))
theorem badW_of {w : Str} {r : List Str} {x : Str} (hr : r ∈ rowsW w) (hx : x ∈ r) (h : isWord x = false) : badW w = true := List.any_eq_true.mpr ⟨r, hr, List.any_eq_true.mpr ⟨x, hx, by rw [h]; rfl⟩⟩
theorem badW_no {w : Str} (h : ∀ r ∈ rowsW w, ∀ x ∈ r, isWord x = true) : badW w = false := by
  refine Bool.eq_false_iff.mpr fun z => ?_
  obtain ⟨r, hr, h2⟩ := List.any_eq_true.mp z
  obtain ⟨x, hx, h3⟩ := List.any_eq_true.mp h2
  rw [h r hr x hx] at h3
  cases h3
theorem rd_T_read {C : Cs} {n1 n2 n3 n4 n5 : Str} : ∀ ds μ Q E, S_T_read C ds μ Q E → t_T_read C (dFn μ Q E) (start0 [n1, n2, n3, n4, n5] ds) μ := by
  rintro _ μ Q E ⟨w, rfl, hw, hl, qb, q⟩
  obtain ⟨k1, k2, k3⟩ := rowsW_ok hw
  unfold t_T_read
  rw [dSeq]
  simp only [dAsg, start0, List.map_cons, List.map_nil, List.length_cons, List.length_nil, List.replicate, List.cons_append, List.nil_append]
  refine rowsW_comp hl rfl (by simp) ?_
  simp only [dName, List.set_cons_succ, List.set_cons_zero]
  rw [dSeq]
  simp only [dFor, dIter, dVar, List.getElem?_cons_zero, List.getElem?_cons_succ]
  refine loop_inv (src := none) (fun i Γ μ' => ∃ a3 a4, Γ = [some (.cls C.T), some (.str w), some (.lst ((rowsW w).map lstS)), a3, a4] ∧ μ = μ' ∧ ∀ r ∈ (rowsW w).take i, ∀ x ∈ r, isWord x = true) ⟨_, _, rfl, rfl, by simp⟩ ?_ ?_
  · rintro i d Γ μ' hd ⟨a3, a4, rfl, rfl, hno⟩
    rw [List.getElem?_map, Option.map_eq_some_iff] at hd
    obtain ⟨r, hr, rfl⟩ := hd
    have hrm := List.mem_of_getElem? hr
    have tk : (rowsW w).take (i + 1) = (rowsW w).take i ++ [r] := by rw [List.take_succ, hr]; rfl
    refine ⟨trivial, fun Kn kn => ?_⟩
    simp only [dName, List.set_cons_succ, List.set_cons_zero, dFor, dIter, dVar, List.getElem?_cons_zero, List.getElem?_cons_succ, lstS]
    refine loop_inv (src := none) (fun j Γ μ' => ∃ a4, Γ = [some (.cls C.T), some (.str w), some (.lst ((rowsW w).map lstS)), some (.lst (r.map .str)), a4] ∧ μ = μ' ∧ ∀ x ∈ r.take j, isWord x = true) ⟨_, rfl, rfl, by simp⟩ ?_ ?_
    · rintro j d Γ μ' hd ⟨a4, rfl, rfl, hno2⟩
      rw [List.getElem?_map, Option.map_eq_some_iff] at hd
      obtain ⟨x, hx, rfl⟩ := hd
      have hxm := List.mem_of_getElem? hx
      have tk2 : r.take (j + 1) = r.take j ++ [x] := by rw [List.take_succ, hx]; rfl
      refine ⟨trivial, fun Kn2 kn2 => ?_⟩
      simp only [dName, List.set_cons_succ, List.set_cons_zero, dIf, dNotT, dTest, dOp, dCons, dNil, dVar, List.getElem?_cons_zero, List.getElem?_cons_succ]
      refine ⟨x, rfl, (k3 r hrm x hxm).1, ?_⟩
      cases hi : isWord x with
      | false =>
        simp only [Bool.not_false, cond_true, dRaise, dVar, List.getElem?_cons_zero, List.getElem?_cons_succ]
        exact FnExc.here rfl (qb (badW_of hrm hxm hi))
      | true =>
        simp only [Bool.not_true, cond_false, dNext]
        refine kn2 _ _ ⟨_, rfl, rfl, fun y hy => ?_⟩
        rw [tk2] at hy
        rcases List.mem_append.mp hy with hy | hy
        · exact hno2 y hy
        · rw [List.mem_singleton.mp hy]; exact hi
    · rintro Γ μ' ⟨a4, rfl, rfl, hno2⟩
      rw [List.length_map, List.take_length] at hno2
      refine ⟨trivial, kn _ _ ⟨_, _, rfl, rfl, fun y hy => ?_⟩⟩
      rw [tk] at hy
      rcases List.mem_append.mp hy with hy | hy
      · exact hno y hy
      · rw [List.mem_singleton.mp hy]; exact hno2
  · rintro Γ μ' ⟨a3, a4, rfl, rfl, hno⟩
    rw [List.length_map, List.take_length] at hno
    obtain ⟨q1, q2⟩ := q (badW_no hno)
    refine ⟨trivial, ?_⟩
    simp only [dRet, dMakeV, dMakeM, dCons, dNil, dVar, List.getElem?_cons_zero, List.getElem?_cons_succ]
    refine ⟨trivial, ?_⟩
    refine make_tabV (C := C) (fun e => TSee.data) (rowsW_short hw hl) (fun h => FnEnd.here (q2 h)) fun e he => ⟨errT_pu he, FnExc.here (errT_pu he) (q1 e he)⟩
def S_l_parsed11 : DSp := fun ds μ Q _ => ∃ w, ds = [.str w] ∧ asc w ∧ w.length ≤ 10000 ∧ Q (if badW w then .lst [] else .lst ((rowsW w).map lstS)) μ
def t_l_parsed11 : DTS := dSeq (dAsg (dComp true [4] (dIter (dSplit true (dVar 0) (dC (.str " / ")))) (cName 4) (dYes) (dSplit true (dVar 4) (dC (.str " ")))) (dName 1)) (dSeq (dFor (dIter (dVar 1)) (dName 2) (dFor (dIter (dVar 2)) (dName 3) (dIf (dOrT (dTest (dBin gEq (dVar 3) (dC (.str "")))) (dOrT (dTest (dBin (gIn false) (dC (.str "/")) (dVar 3))) (dTest (dBin (gIn false) (dC (.str "\n")) (dVar 3))))) (dRet (dCall gLst (dNil))) (dNext)))) (dRet (dVar 1)))
theorem rd_l_parsed11 {n1 n2 n3 n4 n5 : Str} : ∀ ds μ Q E, S_l_parsed11 ds μ Q E → t_l_parsed11 (dFn μ Q E) (start0 [n1, n2, n3, n4, n5] ds) μ := by
  rintro _ μ Q E ⟨w, rfl, hw, hl, q⟩
  obtain ⟨k1, k2, k3⟩ := rowsW_ok hw
  unfold t_l_parsed11
  rw [dSeq]
  simp only [dAsg, start0, List.map_cons, List.map_nil, List.length_cons, List.length_nil, List.replicate, List.cons_append, List.nil_append]
  refine rowsW_comp hl rfl (by simp) ?_
  simp only [dName, List.set_cons_succ, List.set_cons_zero]
  rw [dSeq]
  simp only [dFor, dIter, dVar, List.getElem?_cons_zero, List.getElem?_cons_succ]
  refine loop_inv (src := none) (fun i Γ μ' => ∃ a2 a3, Γ = [some (.str w), some (.lst ((rowsW w).map lstS)), a2, a3, none] ∧ μ = μ' ∧ ∀ r ∈ (rowsW w).take i, ∀ x ∈ r, isWord x = true) ⟨_, _, rfl, rfl, by simp⟩ ?_ ?_
  · rintro i d Γ μ' hd ⟨a2, a3, rfl, rfl, hno⟩
    rw [List.getElem?_map, Option.map_eq_some_iff] at hd
    obtain ⟨r, hr, rfl⟩ := hd
    have hrm := List.mem_of_getElem? hr
    have tk : (rowsW w).take (i + 1) = (rowsW w).take i ++ [r] := by rw [List.take_succ, hr]; rfl
    refine ⟨trivial, fun Kn kn => ?_⟩
    simp only [dName, List.set_cons_succ, List.set_cons_zero, dFor, dIter, dVar, List.getElem?_cons_zero, List.getElem?_cons_succ, lstS]
    refine loop_inv (src := none) (fun j Γ μ' => ∃ a3, Γ = [some (.str w), some (.lst ((rowsW w).map lstS)), some (.lst (r.map .str)), a3, none] ∧ μ = μ' ∧ ∀ x ∈ r.take j, isWord x = true) ⟨_, rfl, rfl, by simp⟩ ?_ ?_
    · rintro j d Γ μ' hd ⟨a3, rfl, rfl, hno2⟩
      rw [List.getElem?_map, Option.map_eq_some_iff] at hd
      obtain ⟨x, hx, rfl⟩ := hd
      have hxm := List.mem_of_getElem? hx
      have tk2 : r.take (j + 1) = r.take j ++ [x] := by rw [List.take_succ, hx]; rfl
      refine ⟨trivial, fun Kn2 kn2 => ?_⟩
      obtain ⟨d1, d2⟩ := deq_str (μ := μ) (k3 r hrm x hxm).1 asc0
      have R : ∀ De : DEnds, De.rt = (dFn μ Q E).rt → isWord x = false → dRet (dCall gLst (dNil)) De [some (.str w), some (.lst ((rowsW w).map lstS)), some (.lst (r.map .str)), some (.str x), none] μ := fun De he hI => by
        simp only [dRet, dCall, dNil, gLst, List.length_nil, he]
        rw [badW_of hrm hxm hI, if_pos rfl] at q
        exact ⟨by decide, FnEnd.here q⟩
      simp only [dName, List.set_cons_succ, List.set_cons_zero, dIf, dOrT, dTest, dBin, dC, dVar, List.getElem?_cons_zero, List.getElem?_cons_succ, gEq]
      refine ⟨d1, ?_⟩
      rw [d2]
      by_cases h0 : x = Str.ofString ""
      · rw [decide_eq_true h0]
        simp only [cond_true]
        exact R _ rfl (by unfold isWord; rw [decide_eq_true h0]; rfl)
      rw [decide_eq_false h0]
      simp only [cond_false, gIn, lk, sg47, sg10, Bool.false_eq_true, if_false]
      by_cases h1 : 47 ∈ x.cps.toList
      · rw [decide_eq_true h1]
        simp only [cond_true]
        exact R _ rfl (by unfold isWord; rw [decide_eq_true h1]; simp)
      rw [decide_eq_false h1]
      simp only [cond_false]
      by_cases h2 : 10 ∈ x.cps.toList
      · rw [decide_eq_true h2]
        simp only [cond_true]
        exact R _ rfl (by unfold isWord; rw [decide_eq_true h2]; simp)
      rw [decide_eq_false h2]
      simp only [cond_false, dNext]
      refine kn2 _ _ ⟨_, rfl, rfl, fun y hy => ?_⟩
      rw [tk2] at hy
      rcases List.mem_append.mp hy with hy | hy
      · exact hno2 y hy
      · rw [List.mem_singleton.mp hy]
        unfold isWord
        rw [decide_eq_false h0, decide_eq_false h1, decide_eq_false h2]; rfl
    · rintro Γ μ' ⟨a3, rfl, rfl, hno2⟩
      rw [List.length_map, List.take_length] at hno2
      refine ⟨trivial, kn _ _ ⟨_, _, rfl, rfl, fun y hy => ?_⟩⟩
      rw [tk] at hy
      rcases List.mem_append.mp hy with hy | hy
      · exact hno y hy
      · rw [List.mem_singleton.mp hy]; exact hno2
  · rintro Γ μ' ⟨a2, a3, rfl, rfl, hno⟩
    rw [List.length_map, List.take_length] at hno
    rw [badW_no hno, if_neg (by simp)] at q
    refine ⟨trivial, ?_⟩
    simp only [dRet, dVar, List.getElem?_cons_zero, List.getElem?_cons_succ]
    exact FnEnd.here q
end DV
/-! (a, b) = (x, y), two local names. -/
namespace DV
open PySem PySem.Spec PyProof.Rows L2
end DV
namespace DV
open PySem PySem.Spec PyProof.Rows L2
end DV
namespace DV
open PySem PySem.Spec PyProof.Rows L2
end DV
namespace DV
open PySem PySem.Spec PyProof.Rows L2
/-! rows in cells of their own -/
end DV
namespace DV
open PySem PySem.Spec PyProof.Rows L2
/-- words that a spoiled grid may hold -/
def WOk10 (g : List (List Str)) : Prop := ∀ r ∈ g, ∀ x ∈ r, asc x ∧ x.length ≤ 100
theorem WOk10.set {g : List (List Str)} {k : Nat} {s : List Str} (h : WOk10 g) (hs : ∀ x ∈ s, asc x ∧ x.length ≤ 100) : WOk10 (g.set k s) := fun r hr x hx => by
  rcases List.mem_or_eq_of_mem_set hr with z | rfl
  · exact h r z x hx
  · exact hs x hx
end DV
namespace DV
open PySem PySem.Spec PyProof.Rows L2
theorem eqv_grid {g h : List (List Str)} : PyData.eqv (D.py 12 (gridD g)) (D.py 12 (gridD h)) = decide (g = h) := by
  show PyData.eqv (.list ((g.map fun s => D.lst (s.map .str)).map (D.py 11))) (.list ((h.map fun s => D.lst (s.map .str)).map (D.py 11))) = _
  simp only [PyData.eqv]
  exact eqv_rows (k := 11) (j := 11) (f := fun s => D.lst (s.map .str)) (fun r s => eqv_strs 10 10 r s) g h
theorem okn_grid {g : List (List Str)} (h : ∀ r ∈ g, ∀ x ∈ r, asc x) : D.okn 12 (gridD g) = true := by
  unfold gridD
  refine List.all_eq_true.mpr fun f hf => ?_
  obtain ⟨r, hr, rfl⟩ := List.mem_map.mp hf
  exact okn_strs (h r hr) 10
theorem TOk.gb {g : List (List Str)} (h : TOk g) : GB (outs g) 8 g := ⟨h.h1, h.h2, h.w1, h.w2, h.eq, fun r hr x hx => outs_mem.mpr ⟨r, hr, hx⟩⟩
end DV
namespace DV
open PySem PySem.Spec PyProof.Rows L2
def SG11 : Str := Str.ofString " !\"#$&'()*+,-./0123456789:;<=>?@ABCDEFGHIJKLMNOPQRSTUVWXYZ[\\]^_`" ++ Str.ofString "abcdefghijklmnopqrstuvwxyz{|}~\n"
theorem sg11_asc : asc SG11 := asc_app (asc_dec (by decide +kernel)) (asc_dec (by decide +kernel))
def S_l_signs11 : DSp := fun ds μ Q _ => ds = [] ∧ Q (.str SG11) μ
def t_l_signs11 : DTS := dSeq (dAsg (dC (.str " !\"#$&'()*+,-./0123456789:;<=>?@ABCDEFGHIJKLMNOPQRSTUVWXYZ[\\]^_`")) (dName 0)) (dRet (dBin gAdd (dVar 0) (dC (.str "abcdefghijklmnopqrstuvwxyz{|}~\n"))))
theorem rd_l_signs11 {n1 : Str} : ∀ ds μ Q E, S_l_signs11 ds μ Q E → t_l_signs11 (dFn μ Q E) (start0 [n1] ds) μ := by
  rintro _ μ Q E ⟨rfl, q⟩
  unfold t_l_signs11
  simp only [dSeq, dAsg, dC, dName, dRet, dBin, dVar, start0, List.map_nil, List.length_cons, List.length_nil, List.replicate, List.nil_append, Nat.sub_zero, List.set_cons_zero, List.getElem?_cons_zero, gAdd, lk]
  exact ⟨by rw [sizeLine_eq]; decide +kernel, FnEnd.here q⟩
theorem asc_cutS {z : Str} (h : asc z) (a b : Option Int) : asc (cutS z a b) ∧ (cutS z a b).length ≤ z.length := by
  have e : (cutS z a b).cps.toList.Sublist z.cps.toList := by
    unfold cutS
    simp only
    exact (List.take_sublist _ _).trans (List.drop_sublist _ _)
  refine ⟨fun c hc => h c (e.mem hc), ?_⟩
  rw [len_list, len_list]
  exact e.length_le
theorem asc_joinB {b : Str} (hb : asc b) {ts : List Str} (h : ∀ t ∈ ts, asc t) : asc (Txt.join b ts) := fun c hc => by
  rw [join_tl] at hc
  have key : ∀ ts : List Str, (∀ t ∈ ts, asc t) → ∀ c ∈ TL.joinL b.cps.toList (ts.map TL.tl), c < 128 := by
    intro ts
    induction ts with
    | nil => intro _ c hc; cases hc
    | cons t ts ih =>
      intro h c hc
      by_cases hn : ts = []
      · subst hn
        exact h t List.mem_cons_self c hc
      · rw [List.map_cons, joinL_cons (by simpa using hn)] at hc
        rcases List.mem_append.mp hc with hc | hc
        · exact h t List.mem_cons_self c hc
        · rcases List.mem_append.mp hc with hc | hc
          · exact hb c hc
          · exact ih (fun y hy => h y (List.mem_cons_of_mem _ hy)) c hc
  exact key ts h c hc
def S_l_spoiled11 : DSp := fun ds μ Q _ => ∃ (l c : Nat) (w : Str), ds = [.ref l, .str w] ∧ μ[l]? = some (.orc (c, true)) ∧ 10 ≤ c ∧ asc w ∧ w.length ≤ 6000 ∧ ∀ c' w', c ≤ c' + 10 → asc w' → w'.length ≤ 2 * w.length + 20 → Q (.str w') (M μ l c')
theorem ix_str {z : Str} {μ : Mu} {i : Int} {Q : D → Mu → Prop} (hz : asc z) (hl : z.length ≤ 10000) (h0 : 0 ≤ i) (h1 : i < (z.length : Int)) (q : ∀ s, asc s → s.length = 1 → Q (.str s) μ) : gIx (.str z) (.int i) μ Q := by
  have hi : i.toNat < z.cps.toList.length := by rw [← len_list]; omega
  have e : atI z.cps.toList i = some z.cps.toList[i.toNat] := atI_nat' h0 (List.getElem?_eq_getElem hi)
  unfold gIx
  simp only [lk, e]
  refine ⟨by rw [sizeLine_eq]; omega, q _ (fun c hc => ?_) rfl⟩
  have : c = z.cps.toList[i.toNat] := by simpa using hc
  rw [this]
  exact hz _ (List.getElem_mem _)
theorem ix_lst {xs : List D} {μ : Mu} {i : Int} {Q : D → Mu → Prop} (h0 : 0 ≤ i) (h1 : i < (xs.length : Int)) (q : ∀ x ∈ xs, Q x μ) : gIx (.lst xs) (.int i) μ Q := by
  have hi : i.toNat < xs.length := by omega
  have e : atI xs i = some xs[i.toNat] := atI_nat' h0 (List.getElem?_eq_getElem hi)
  unfold gIx
  simp only [lk, e]
  exact q _ (List.getElem_mem _)
/-- the sum of what the parts take -/
def Tot (b : Str) (ts : List Str) : Nat := (ts.map (·.length)).sum + ts.length * b.length
theorem tot_app (b : Str) (xs ys : List Str) : Tot b (xs ++ ys) = Tot b xs + Tot b ys := by
  unfold Tot
  rw [List.map_append, List.sum_append, List.length_append, Nat.add_mul]; omega
theorem tot_cons (b : Str) (x : Str) (ys : List Str) : Tot b (x :: ys) = x.length + b.length + Tot b ys := by
  unfold Tot
  rw [List.map_cons, List.sum_cons, List.length_cons, Nat.add_mul]; omega
theorem tot_take (b : Str) (xs : List Str) (k : Nat) : Tot b (xs.take k) ≤ Tot b xs := by
  have := tot_app b (xs.take k) (xs.drop k)
  rw [List.take_append_drop] at this; omega
theorem tot_drop (b : Str) (xs : List Str) (k : Nat) : Tot b (xs.drop k) ≤ Tot b xs := by
  have := tot_app b (xs.take k) (xs.drop k)
  rw [List.take_append_drop] at this; omega
theorem tot_rev (b : Str) : ∀ (xs : List Str), Tot b xs.reverse = Tot b xs
  | [] => rfl
  | x :: xs => by rw [List.reverse_cons, tot_app, tot_rev b xs, tot_cons, tot_cons]; simp [Tot]; omega
theorem tot_set (b : Str) : ∀ (xs : List Str) (k : Nat) (x : Str), Tot b (xs.set k x) ≤ Tot b xs + x.length
  | [], _, _ => by simp [Tot]
  | y :: xs, 0, x => by rw [List.set_cons_zero, tot_cons, tot_cons]; omega
  | y :: xs, k + 1, x => by
    rw [List.set_cons_succ, tot_cons, tot_cons]
    have := tot_set b xs k x; omega
theorem tot_join {b : Str} (hb : SepOk b) (ts : List Str) : (Txt.join b ts).length ≤ Tot b ts := by
  by_cases e : ts = []
  · subst e
    rw [join_nil]; omega
  · have j := join_len (b := b) e
    unfold Tot; omega
theorem tot_split {b : Str} (hb : SepOk b) (w : Str) : Tot b (Txt.split w b) = w.length + b.length := split_len hb w
def t_l_spoiled11_12 : DTS := dRet (dJoin (dVar 6) (dVar 7))
def t_l_spoiled11_11 : DTS := dSeq (dIf (dTest (dBin gEq (dVar 5) (dC (.int 6)))) (dAsg (dBin gAdd (dSlice true (dVar 7) dNoPart (dPart (dVar 8))) (dRevA true (dSlice true (dVar 7) (dPart (dVar 8)) dNoPart))) (dName 7)) (dNext)) (t_l_spoiled11_12)
def t_l_spoiled11_10 : DTS := dSeq (dIf (dTest (dBin gEq (dVar 5) (dC (.int 5)))) (dAsg (dBin gAdd (dSlice true (dVar 7) dNoPart (dPart (dBin gAdd (dVar 8) (dC (.int 1))))) (dSlice true (dVar 7) (dPart (dVar 8)) dNoPart)) (dName 7)) (dNext)) (t_l_spoiled11_11)
def t_l_spoiled11_9 : DTS := dSeq (dIf (dTest (dBin gEq (dVar 5) (dC (.int 4)))) (dAsg (dBin gAdd (dSlice true (dVar 7) dNoPart (dPart (dVar 8))) (dSlice true (dVar 7) (dPart (dBin gAdd (dVar 8) (dC (.int 1)))) dNoPart)) (dName 7)) (dNext)) (t_l_spoiled11_10)
def t_l_spoiled11_8 : DTS := dSeq (dIf (dTest (dBin gEq (dVar 5) (dC (.int 3)))) (dAsg (dBin gIx (dCall gLst (dCons (dC (.str "")) (dCons (dC (.str "/")) (dCons (dC (.str "a")) (dCons (dC (.str "X")) (dCons (dC (.str "//")) (dCons (dC (.str "a\nb")) (dCons (dC (.str " ")) (dCons (dC (.str "abcdefg")) (dCons (dC (.str "a/b")) (dNil))))))))))) (dOp S_draw (dCons (dVar 0) (dCons (dC (.int 9)) (dNil))))) (dSetI (dVar 7) (dVar 8))) (dNext)) (t_l_spoiled11_9)
def t_l_spoiled11_7 : DTS := dSeq (dAsg (dOp S_draw (dCons (dVar 0) (dCons (dCall gLen (dCons (dVar 7) dNil)) (dNil)))) (dName 8)) (t_l_spoiled11_8)
def t_l_spoiled11_6 : DTS := dSeq (dAsg (dSplit false (dVar 1) (dVar 6)) (dName 7)) (t_l_spoiled11_7)
def t_l_spoiled11_5 : DTS := dSeq (dAsg (dBin gIx (dCall gLst (dCons (dC (.str " ")) (dCons (dC (.str " / ")) (dNil)))) (dOp S_draw (dCons (dVar 0) (dCons (dC (.int 2)) (dNil))))) (dName 6)) (t_l_spoiled11_6)
def t_l_spoiled11_4 : DTS := dSeq (dIf (dTest (dBin (gI fun i j => .bl (decide (i < j))) (dVar 5) (dC (.int 3)))) (dRet (dBin gAdd (dBin gAdd (dSlice true (dVar 1) dNoPart (dPart (dVar 4))) (dBin gIx (dCall gLst (dCons (dC (.str "")) (dCons (dVar 3) (dCons (dVar 3) (dNil))))) (dVar 5))) (dSlice true (dVar 1) (dPart (dBin gAdd (dVar 4) (dBin gIx (dCall gLst (dCons (dC (.int 1)) (dCons (dC (.int 0)) (dCons (dC (.int 1)) (dNil))))) (dVar 5)))) dNoPart))) (dNext)) (t_l_spoiled11_5)
def t_l_spoiled11_3 : DTS := dSeq (dAsg (dOp S_draw (dCons (dVar 0) (dCons (dC (.int 7)) (dNil)))) (dName 5)) (t_l_spoiled11_4)
def t_l_spoiled11_2 : DTS := dSeq (dAsg (dOp S_draw (dCons (dVar 0) (dCons (dBin gAdd (dCall gLen (dCons (dVar 1) dNil)) (dC (.int 1))) (dNil)))) (dName 4)) (t_l_spoiled11_3)
def t_l_spoiled11_1 : DTS := dSeq (dAsg (dBin gIx (dVar 2) (dOp S_draw (dCons (dVar 0) (dCons (dCall gLen (dCons (dVar 2) dNil)) (dNil))))) (dName 3)) (t_l_spoiled11_2)
def t_l_spoiled11 : DTS := dSeq (dAsg (dBin gAdd (dOp S_l_signs11 dNil) (dC (.str "/ / "))) (dName 2)) (t_l_spoiled11_1)
theorem join_run {b : Str} {d : D} {ts : List Str} {μ : Mu} {Q : D → Mu → Prop} (hb : SepOk b) (ht : ∀ t ∈ ts, asc t) (hT : Tot b ts ≤ 100000) (e : lk μ d = .lst (ts.map .str)) (q : ∀ w', asc w' → w'.length ≤ Tot b ts → Q (.str w') μ) : (match lk μ d with
    | .lst ds => (match strD ds with | some ys => (ys.map (·.length)).sum + ys.length * b.length ≤ 16777216 ∧ Q (.str (Txt.join b ys)) μ | none => False)
    | .tup ds => (match strD ds with | some ys => (ys.map (·.length)).sum + ys.length * b.length ≤ 16777216 ∧ Q (.str (Txt.join b ys)) μ | none => False)
    | _ => False) := by
  rw [e]
  dsimp only
  rw [strD_map]
  dsimp only
  exact ⟨by unfold Tot at hT; omega, q _ (asc_joinB hb.a ht) (tot_join hb ts)⟩
theorem rd_l_spoiled11 {n1 n2 n3 n4 n5 n6 n7 n8 n9 : Str} : ∀ ds μ Q E, S_l_spoiled11 ds μ Q E → t_l_spoiled11 (dFn μ Q E) (start0 [n1, n2, n3, n4, n5, n6, n7, n8, n9] ds) μ := by
  rintro _ μ Q E ⟨l, c, w, rfl, ho, hc, hw, hl, q⟩
  have hlt := orc_lt ho
  have e0 : t_l_spoiled11 (dFn μ Q E) (start0 [n1, n2, n3, n4, n5, n6, n7, n8, n9] [.ref l, .str w]) (M μ l c) → t_l_spoiled11 (dFn μ Q E) (start0 [n1, n2, n3, n4, n5, n6, n7, n8, n9] [.ref l, .str w]) μ := fun h => by rw [M_id ho] at h; exact h
  refine e0 ?_
  have sz : ∀ {n : Nat}, n ≤ 1000000 → n ≤ sizeLine := fun h => by rw [sizeLine_eq]; omega
  have e10 : (Str.ofString "").length = 0 := by decide +kernel
  unfold t_l_spoiled11
  rw [dSeq]
  simp only [dAsg, dBin, dOp, dNil, dC, start0, List.map_cons, List.map_nil, List.length_cons, List.length_nil, List.replicate, List.cons_append, List.nil_append]
  refine ⟨rfl, ?_⟩
  simp only [gAdd, lk]
  refine ⟨sz (by decide +kernel), ?_⟩
  obtain ⟨Z, hZ⟩ : ∃ Z, Z = SG11 ++ Str.ofString "/ / " := ⟨_, rfl⟩
  have za : asc Z := by rw [hZ]; exact asc_app sg11_asc (asc_dec (by decide +kernel))
  have zl : 1 ≤ Z.length ∧ Z.length ≤ 300 := by rw [hZ]; decide +kernel
  rw [← hZ]
  simp only [dName, List.set_cons_succ, List.set_cons_zero]
  unfold t_l_spoiled11_1
  try dsimp only
  rw [dSeq]
  simp only [dAsg, dBin, dOp, dCall, dCons, dNil, dVar, List.getElem?_cons_zero, List.getElem?_cons_succ, gLen, lk]
  refine ⟨sz (by omega), ?_⟩
  refine draw_M hlt (by omega) (by omega) (by omega) fun i i0 i1 => ?_
  refine ix_str za (by omega) i0 i1 fun sgn sa sl => ?_
  simp only [dName, List.set_cons_succ, List.set_cons_zero]
  unfold t_l_spoiled11_2
  try dsimp only
  rw [dSeq]
  simp only [dAsg, dBin, dOp, dCall, dCons, dNil, dC, dVar, List.getElem?_cons_zero, List.getElem?_cons_succ, gLen, lk, gAdd]
  refine ⟨sz (by omega), ?_⟩
  refine draw_M hlt (by omega) (by omega) (by omega) fun sp sp0 sp1 => ?_
  simp only [dName, List.set_cons_succ, List.set_cons_zero]
  unfold t_l_spoiled11_3
  try dsimp only
  rw [dSeq]
  simp only [dAsg, dOp, dCons, dNil, dC, dVar, List.getElem?_cons_zero, List.getElem?_cons_succ]
  refine draw_M hlt (by omega) (by decide) (by decide) fun p p0 p1 => ?_
  simp only [dName, List.set_cons_succ, List.set_cons_zero]
  generalize hc3 : c - 1 - 1 - 1 = c3
  unfold t_l_spoiled11_4
  try dsimp only
  rw [dSeq]
  simp only [dIf, dTest, dBin, dC, dVar, List.getElem?_cons_zero, List.getElem?_cons_succ, gI]
  by_cases hp : p < 3
  · rw [decide_eq_true hp]
    simp only [cond_true, dRet, dBin, dSlice, dNoPart, dPart, dCall, dCons, dNil, dC, dVar, List.getElem?_cons_zero, List.getElem?_cons_succ, lk, gLst, List.length_cons, List.length_nil]
    obtain ⟨k1, k2⟩ := asc_cutS hw none (some sp)
    refine ⟨sz (by omega), sz (by omega), ?_⟩
    refine ix_lst p0 (by simpa using hp) fun x hx => ?_
    have hx : ∃ s, x = .str s ∧ asc s ∧ s.length ≤ 1 := by
      rcases List.mem_cons.mp hx with rfl | hx
      · exact ⟨_, rfl, asc_dec (by decide +kernel), by rw [e10]; omega⟩
      · simp at hx
        exact ⟨sgn, hx, sa, by omega⟩
    obtain ⟨s, rfl, s1, s2⟩ := hx
    simp only [gAdd, lk]
    refine ⟨sz (by omega), sz (by omega), ?_⟩
    refine ix_lst p0 (by simpa using hp) fun y hy => ?_
    have hy : ∃ n : Int, y = .int n := by
      simp at hy
      rcases hy with rfl | rfl | rfl <;> exact ⟨_, rfl⟩
    obtain ⟨n, rfl⟩ := hy
    simp only [gAdd, lk, dPart, dSlice]
    obtain ⟨k3, k4⟩ := asc_cutS hw (some (sp + n)) none
    refine ⟨sz (by omega), sz (by rw [len_app]; omega), FnEnd.here (q _ _ (by omega) (asc_app (asc_app k1 s1) k3) (by rw [len_app, len_app]; omega))⟩
  rw [decide_eq_false hp]
  simp only [cond_false, dNext]
  unfold t_l_spoiled11_5
  try dsimp only
  rw [dSeq]
  simp only [dAsg, dBin, dOp, dCall, dCons, dNil, dC, dVar, List.getElem?_cons_zero, List.getElem?_cons_succ, gLst, List.length_cons, List.length_nil]
  refine ⟨sz (by decide), ?_⟩
  refine draw_M hlt (by omega) (by decide) (by decide) fun bi b0 b1 => ?_
  refine ix_lst b0 (by simpa using b1) fun x hx => ?_
  have hx : ∃ b, x = .str b ∧ SepOk b := by
    simp at hx
    rcases hx with rfl | rfl
    · exact ⟨_, rfl, sep1⟩
    · exact ⟨_, rfl, sep3⟩
  obtain ⟨b, rfl, hb⟩ := hx
  simp only [dName, List.set_cons_succ, List.set_cons_zero]
  unfold t_l_spoiled11_6
  try dsimp only
  rw [dSeq]
  simp only [dAsg, dSplit, dVar, List.getElem?_cons_zero, List.getElem?_cons_succ]
  refine ⟨w, rfl, b, rfl, hb.l, sz (by omega), ?_⟩
  have ws1 := tot_split hb w
  have ws2 := split_asc hb hw
  have ws3 := split_le2 hb w
  have ws4 := List.length_pos_iff.mpr (split_ne hb w)
  obtain ⟨ws, hws⟩ : ∃ ws, ws = Txt.split w b := ⟨_, rfl⟩
  rw [← hws] at ws1 ws2 ws3 ws4 ⊢
  have bl := hb.n
  simp only [dFin, dName, List.set_cons_succ, List.set_cons_zero, M_len]
  have lo : ∀ c X, lk (M μ l c ++ [Cell.lst X]) (.ref μ.length) = .lst X := fun c X => by rw [← M_len (μ := μ) (l := l) (c := c)]; exact lk_cell get_a0
  have go : ∀ c X, (M μ l c ++ [Cell.lst X])[μ.length]? = some (.lst X) := fun c X => by rw [← M_len (μ := μ) (l := l) (c := c)]; exact get_a0
  have so : ∀ c X Y, (M μ l c ++ [Cell.lst X]).set μ.length (.lst Y) = M μ l c ++ [Cell.lst Y] := fun c X Y => by rw [← M_len (μ := μ) (l := l) (c := c)]; exact set_a0
  unfold t_l_spoiled11_7
  try dsimp only
  rw [dSeq]
  simp only [dAsg, dOp, dCall, dCons, dNil, dVar, List.getElem?_cons_zero, List.getElem?_cons_succ, gLen, lo, List.length_map]
  refine draw_E hlt (by omega) (by omega) (by omega) fun k k0 k1 => ?_
  simp only [dName, List.set_cons_succ, List.set_cons_zero]
  generalize hc5 : c3 - 1 - 1 = c5
  have fin : ∀ c' d ts μ', lk (M μ l c' ++ μ') d = .lst (ts.map .str) → c ≤ c' + 10 → (∀ t ∈ ts, asc t) → Tot b ts ≤ 2 * w.length + 20 → ∀ a2 a3 a4 a5 a8, t_l_spoiled11_12 (dFn μ Q E) [some (.ref l), some (.str w), a2, a3, a4, a5, some (.str b), some d, a8] (M μ l c' ++ μ') := fun c' d ts μ' h1 h2 h3 h4 a2 a3 a4 a5 a8 => by
    unfold t_l_spoiled11_12
    simp only [dRet, dJoin, dVar, List.getElem?_cons_zero, List.getElem?_cons_succ]
    refine ⟨⟨b, rfl⟩, ?_⟩
    exact join_run hb h3 (by omega) h1 fun w' wa wl => FnEnd.pure M_upd rfl (q _ _ h2 wa (by omega))
  have lkl : ∀ (μ : Mu) xs, lk μ (.lst xs) = .lst xs := fun _ _ => rfl
  have lki : ∀ (μ : Mu) i, lk μ (.int i) = .int i := fun _ _ => rfl
  have p3 : p = 3 ∨ p = 4 ∨ p = 5 ∨ p = 6 := by omega
  have ik : ixN (ws.map D.str).length k = some k.toNat := by
    unfold ixN; rw [List.length_map, if_pos k0, if_pos (by omega)]
  unfold t_l_spoiled11_8
  try dsimp only
  rw [dSeq]
  refine if_int (p := p) rfl ?_
  rcases p3 with rfl | rfl | rfl | rfl
  · rw [if_pos rfl]
    simp only [dAsg, dBin, dOp, dCall, dCons, dNil, dC, dVar, List.getElem?_cons_zero, List.getElem?_cons_succ, gLst, List.length_cons, List.length_nil]
    refine ⟨sz (by decide), ?_⟩
    refine draw_E hlt (by omega) (by decide) (by decide) fun t t0 t1 => ?_
    refine ix_lst t0 (by simpa using t1) fun x hx => ?_
    have hx : ∃ s, x = .str s ∧ asc s ∧ s.length ≤ 7 := by
      have all : ∀ s ∈ (["", "/", "a", "X", "//", "a\nb", " ", "abcdefg", "a/b"] : List String), asc (Str.ofString s) ∧ (Str.ofString s).length ≤ 7 := by
        intro s hs
        simp only [List.mem_cons, List.not_mem_nil, or_false] at hs
        rcases hs with rfl | rfl | rfl | rfl | rfl | rfl | rfl | rfl | rfl <;> exact ⟨asc_dec (by decide +kernel), by decide +kernel⟩
      simp only [List.mem_cons, List.not_mem_nil, or_false] at hx
      rcases hx with rfl | rfl | rfl | rfl | rfl | rfl | rfl | rfl | rfl <;> exact ⟨_, rfl, all _ (by simp)⟩
    obtain ⟨s, rfl, s1, s2⟩ := hx
    simp only [dSetI, dVar, List.getElem?_cons_zero, List.getElem?_cons_succ, go, ik, so]
    unfold t_l_spoiled11_9
    try dsimp only
    rw [dSeq]
    refine if_int (p := 3) rfl ?_
    rw [if_neg (by decide)]
    simp only [dNext]
    unfold t_l_spoiled11_10
    try dsimp only
    rw [dSeq]
    refine if_int (p := 3) rfl ?_
    rw [if_neg (by decide)]
    simp only [dNext]
    unfold t_l_spoiled11_11
    try dsimp only
    rw [dSeq]
    refine if_int (p := 3) rfl ?_
    rw [if_neg (by decide)]
    simp only [dNext]
    refine fin _ _ (ws.set k.toNat s) _ (by rw [lo, List.map_set]) (by omega) (fun t ht => ?_) (by have := tot_set b ws k.toNat s; omega) _ _ _ _ _
    rcases List.mem_or_eq_of_mem_set ht with h | rfl
    · exact ws2 t h
    · exact s1
  · rw [if_neg (by decide)]
    simp only [dNext]
    unfold t_l_spoiled11_9
    try dsimp only
    rw [dSeq]
    refine if_int (p := 4) rfl ?_
    rw [if_pos rfl]
    simp only [dAsg, dBin, dSlice, dNoPart, dPart, dC, dVar, List.getElem?_cons_zero, List.getElem?_cons_succ, lo, dFin, gAdd, lkl, lki]
    rw [cut_to _ k0, cut_from _ (by omega)]
    refine ⟨sz (by rw [List.length_take, List.length_drop, List.length_map]; omega), ?_⟩
    rw [← List.map_take, ← List.map_drop, ← List.map_append]
    simp only [dName, List.set_cons_succ, List.set_cons_zero]
    unfold t_l_spoiled11_10
    try dsimp only
    rw [dSeq]
    refine if_int (p := 4) rfl ?_
    rw [if_neg (by decide)]
    simp only [dNext]
    unfold t_l_spoiled11_11
    try dsimp only
    rw [dSeq]
    refine if_int (p := 4) rfl ?_
    rw [if_neg (by decide)]
    simp only [dNext]
    refine fin _ _ _ _ rfl (by omega) (fun t ht => ?_) (by rw [tot_app]; have := tot_take b ws k.toNat; have := tot_drop b ws (k + 1).toNat; omega) _ _ _ _ _
    rcases List.mem_append.mp ht with h | h
    · exact ws2 t (List.mem_of_mem_take h)
    · exact ws2 t (List.mem_of_mem_drop h)
  · rw [if_neg (by decide)]
    simp only [dNext]
    unfold t_l_spoiled11_9
    try dsimp only
    rw [dSeq]
    refine if_int (p := 5) rfl ?_
    rw [if_neg (by decide)]
    simp only [dNext]
    unfold t_l_spoiled11_10
    try dsimp only
    rw [dSeq]
    refine if_int (p := 5) rfl ?_
    rw [if_pos rfl]
    simp only [dAsg, dBin, dSlice, dNoPart, dPart, dC, dVar, List.getElem?_cons_zero, List.getElem?_cons_succ, lo, dFin, gAdd, lkl, lki]
    rw [cut_to _ (by omega), cut_from _ k0]
    refine ⟨sz (by rw [List.length_take, List.length_drop, List.length_map]; omega), ?_⟩
    rw [← List.map_take, ← List.map_drop, ← List.map_append]
    simp only [dName, List.set_cons_succ, List.set_cons_zero]
    unfold t_l_spoiled11_11
    try dsimp only
    rw [dSeq]
    refine if_int (p := 5) rfl ?_
    rw [if_neg (by decide)]
    simp only [dNext]
    refine fin _ _ _ _ rfl (by omega) (fun t ht => ?_) (by rw [tot_app]; have := tot_take b ws (k + 1).toNat; have := tot_drop b ws k.toNat; omega) _ _ _ _ _
    rcases List.mem_append.mp ht with h | h
    · exact ws2 t (List.mem_of_mem_take h)
    · exact ws2 t (List.mem_of_mem_drop h)
  · rw [if_neg (by decide)]
    simp only [dNext]
    unfold t_l_spoiled11_9
    try dsimp only
    rw [dSeq]
    refine if_int (p := 6) rfl ?_
    rw [if_neg (by decide)]
    simp only [dNext]
    unfold t_l_spoiled11_10
    try dsimp only
    rw [dSeq]
    refine if_int (p := 6) rfl ?_
    rw [if_neg (by decide)]
    simp only [dNext]
    unfold t_l_spoiled11_11
    try dsimp only
    rw [dSeq]
    refine if_int (p := 6) rfl ?_
    rw [if_pos rfl]
    simp only [dAsg, dBin, dRevA, dSlice, dNoPart, dPart, dC, dVar, List.getElem?_cons_zero, List.getElem?_cons_succ, lo, dFin, gAdd, lkl, lki]
    rw [cut_to _ k0, cut_from _ k0]
    refine ⟨sz (by rw [List.length_reverse, List.length_take, List.length_drop, List.length_map]; omega), ?_⟩
    rw [← List.map_take, ← List.map_drop, ← List.map_reverse, ← List.map_append]
    simp only [dName, List.set_cons_succ, List.set_cons_zero]
    refine fin _ _ _ _ rfl (by omega) (fun t ht => ?_) (by rw [tot_app, tot_rev]; have := tot_take b ws k.toNat; have := tot_drop b ws k.toNat; omega) _ _ _ _ _
    rcases List.mem_append.mp ht with h | h
    · exact ws2 t (List.mem_of_mem_take h)
    · exact ws2 t (List.mem_of_mem_drop (List.mem_reverse.mp h))
end DV
namespace DV
open PySem PySem.Spec PyProof.Rows L2
def told11D (w : Str) : D := if badW w then .lst [.str (Str.ofString "text"), .str w, .bl true] else match errT (rowsW w) with
  | none => .lst [.str (Str.ofString "table"), rowsD (rowsW w), .str w]
  | some x => xD x
theorem sz3 : (3 : Nat) ≤ sizeLine := by rw [sizeLine_eq]; decide
def S_l_told11 (C : Cs) : DSp := fun ds μ Q _ => ∃ w, ds = [.str w] ∧ asc w ∧ w.length ≤ 10000 ∧ Q (told11D w) μ
def t_l_told11 (C : Cs) : DTS := dTry [.BadName, .BadCount, .BadText, .BadCell] (dSeq (dAsg (dCMeth C.T (S_T_read C) (dC (.cls C.T)) (dCons (dVar 0) (dNil))) (dName 1)) (dRet (dCall gLst (dCons (dC (.str "table")) (dCons (dProp C.T (S_T_lines C) (dVar 1)) (dCons (dCall (gStrOwn C.T (S_T_str C)) (dCons (dVar 1) dNil)) (dNil))))))) [⟨.BadText, some 2, fun a dd l => dRet (dCall gLst (dCons (dC (.str "text")) (dCons (dXf a dd l "text" (dVar 2)) (dCons (dIsX a dd l (dVar 2)) (dNil)))))⟩, ⟨.BadCount, some 2, fun a dd l => dRet (dCall gLst (dCons (dC (.str "count")) (dCons (dXf a dd l "count" (dVar 2)) (dNil))))⟩, ⟨.BadName, some 2, fun a dd l => dRet (dCall gLst (dCons (dC (.str "name")) (dCons (dXf a dd l "name" (dVar 2)) (dNil))))⟩]
theorem rd_l_told11 {C : Cs} {n1 n2 n3 : Str} : ∀ ds μ Q E, S_l_told11 C ds μ Q E → t_l_told11 C (dFn μ Q E) (start0 [n1, n2, n3] ds) μ := by
  rintro _ μ Q E ⟨w, rfl, hw, hl, q⟩
  unfold told11D at q
  unfold t_l_told11
  rw [dTry]
  rw [dSeq]
  simp only [dAsg, dCMeth, dC, dCons, dNil, dVar, start0, List.map_cons, List.map_nil, List.length_cons, List.length_nil, List.replicate, List.cons_append, List.nil_append, List.getElem?_cons_zero, List.getElem?_cons_succ]
  refine ⟨by first | rfl | trivial, w, rfl, hw, hl, fun hb => ?_, fun hb => ⟨fun e he => ?_, fun he => ?_⟩⟩
  · rw [if_pos hb] at q
    refine hnd_hit (by decide) ?_
    refine ⟨by simp, fun a dd => ?_⟩
    simp only [dRet, dCall, dCons, dNil, dC, dXf, dIsX, dVar, List.set_cons_zero, List.set_cons_succ, List.getElem?_cons_zero, List.getElem?_cons_succ, get_a0, List.lookup_cons, beq_self_eq_true, gLst]
    exact ⟨trivial, trivial, trivial, ⟨_, rfl⟩, sz3, FnEnd.pure (Upd.refl μ) rfl q⟩
  · rw [hb, if_neg (by simp), he] at q
    rcases errT_form he with ⟨k, rfl⟩ | ⟨x, _, rfl⟩
    · refine hnd_miss (by decide) (by decide) (by decide) (hnd_hit (by decide) ?_)
      refine ⟨by simp, fun a dd => ?_⟩
      simp only [dRet, dCall, dCons, dNil, dC, dXf, dVar, List.set_cons_zero, List.set_cons_succ, List.getElem?_cons_zero, List.getElem?_cons_succ, get_a0, List.lookup_cons, beq_self_eq_true, gLst]
      exact ⟨trivial, trivial, sz2, FnEnd.pure (Upd.refl μ) rfl q⟩
    · refine hnd_miss (by decide) (by decide) (by decide) (hnd_miss (by decide) (by decide) (by decide) (hnd_hit (by decide) ?_))
      refine ⟨by simp, fun a dd => ?_⟩
      simp only [dRet, dCall, dCons, dNil, dC, dXf, dVar, List.set_cons_zero, List.set_cons_succ, List.getElem?_cons_zero, List.getElem?_cons_succ, get_a0, List.lookup_cons, beq_self_eq_true, gLst]
      exact ⟨trivial, trivial, sz2, FnEnd.pure (Upd.refl μ) rfl q⟩
  · rw [hb, if_neg (by simp), he] at q
    simp only [dName, List.set_cons_succ, List.set_cons_zero, dRet, dCall, dProp, dCons, dNil, dC, dVar, List.getElem?_cons_zero, List.getElem?_cons_succ, gStrOwn]
    refine ⟨rfl, _, rfl, rfl, _, rfl, errT_none.mp he, _, rfl, ?_⟩
    simp only [gLst]
    rw [rowsW_join]
    exact ⟨sz3, FnEnd.here q⟩
theorem eq_grid {μ : Mu} {g : List (List Str)} {Q : D → Mu → Prop} (ha : ∀ r ∈ g, ∀ x ∈ r, asc x) (q : Q (.bl (decide (g = []))) μ) : gEq (gridD g) (.lst []) μ Q := by
  unfold gEq deqOk deq
  have e : lk μ (gridD g) = gridD g := rfl
  rw [e]
  refine ⟨⟨okn_grid ha, rfl⟩, ?_⟩
  have d : PyData.eqv (D.py 12 (gridD g)) (D.py 12 (lk μ (.lst []))) = decide (g = []) := eqv_grid (g := g) (h := [])
  rw [d]
  exact q
def S_l_due11 (C : Cs) : DSp := fun ds μ Q _ => ∃ w, ds = [.str w] ∧ asc w ∧ w.length ≤ 10000 ∧ Q (told11D w) μ
def t_l_due11 (C : Cs) : DTS := dSeq (dAsg (dOp S_l_parsed11 (dCons (dVar 0) (dNil))) (dName 1)) (dSeq (dIf (dTest (dBin gEq (dVar 1) (dCall gLst (dNil)))) (dRet (dCall gLst (dCons (dC (.str "text")) (dCons (dVar 0) (dCons (dC (.bl true)) (dNil)))))) (dNext)) (dTry [.BadName, .BadCount, .BadText, .BadCell] (dRet (dCall gLst (dCons (dC (.str "table")) (dCons (dProp C.T (S_T_lines C) (dMake C.T (S_T_initL C) (dCons (dVar 1) (dNil)))) (dCons (dVar 0) (dNil)))))) [⟨.BadCount, some 2, fun a dd l => dRet (dCall gLst (dCons (dC (.str "count")) (dCons (dXf a dd l "count" (dVar 2)) (dNil))))⟩, ⟨.BadName, some 2, fun a dd l => dRet (dCall gLst (dCons (dC (.str "name")) (dCons (dXf a dd l "name" (dVar 2)) (dNil))))⟩]))
theorem rowsW_ne (w : Str) : rowsW w ≠ [] := fun z => by
  have : Txt.split w (Str.ofString " / ") = [] := List.map_eq_nil_iff.mp z
  exact split_ne sep3 w this
theorem rd_l_due11 {C : Cs} {n1 n2 n3 : Str} : ∀ ds μ Q E, S_l_due11 C ds μ Q E → t_l_due11 C (dFn μ Q E) (start0 [n1, n2, n3] ds) μ := by
  rintro _ μ Q E ⟨w, rfl, hw, hl, q⟩
  unfold told11D at q
  unfold t_l_due11
  rw [dSeq]
  simp only [dAsg, dOp, dCons, dNil, dVar, start0, List.map_cons, List.map_nil, List.length_cons, List.length_nil, List.replicate, List.cons_append, List.nil_append, List.getElem?_cons_zero, List.getElem?_cons_succ]
  refine ⟨w, rfl, hw, hl, ?_⟩
  simp only [dName, List.set_cons_succ, List.set_cons_zero]
  rw [dSeq]
  simp only [dIf, dTest, dBin, dCall, dNil, dVar, List.getElem?_cons_zero, List.getElem?_cons_succ, gLst, List.length_nil]
  refine ⟨by decide, ?_⟩
  by_cases hb : badW w = true
  · rw [if_pos hb] at q ⊢
    refine eq_grid (g := []) (by simp) ?_
    simp only [decide_true, cond_true, dRet, dCall, dCons, dNil, dC, dVar, List.getElem?_cons_zero, List.getElem?_cons_succ, gLst]
    exact ⟨sz3, FnEnd.here q⟩
  rw [if_neg hb] at q ⊢
  refine eq_grid (g := rowsW w) (fun r hr x hx => ((rowsW_ok hw).2.2 r hr x hx).1) ?_
  rw [decide_eq_false (rowsW_ne w)]
  simp only [cond_false, dNext]
  rw [dTry]
  simp only [dRet, dCall, dProp, dMake, dCons, dNil, dC, dVar, List.getElem?_cons_zero, List.getElem?_cons_succ]
  refine make_tabL (C := C) (g := rowsW w) (fun e => TSee.data) (rowsW_short hw hl) (fun he => ?_) fun e he => ⟨errT_pu he, ?_⟩
  · rw [he] at q
    rw [tab_ins]
    refine ⟨rfl, _, rfl, ?_⟩
    simp only [gLst]
    exact ⟨sz3, FnEnd.here q⟩
  · rw [he] at q
    rcases errT_form he with ⟨k, rfl⟩ | ⟨x, _, rfl⟩
    · refine hnd_hit (by decide) ?_
      refine ⟨by simp, fun a dd => ?_⟩
      simp only [dRet, dCall, dCons, dNil, dC, dXf, dVar, List.set_cons_zero, List.set_cons_succ, List.getElem?_cons_zero, List.getElem?_cons_succ, get_a0, List.lookup_cons, beq_self_eq_true, gLst]
      exact ⟨trivial, trivial, sz2, FnEnd.pure (Upd.refl μ) rfl q⟩
    · refine hnd_miss (by decide) (by decide) (by decide) (hnd_hit (by decide) ?_)
      refine ⟨by simp, fun a dd => ?_⟩
      simp only [dRet, dCall, dCons, dNil, dC, dXf, dVar, List.set_cons_zero, List.set_cons_succ, List.getElem?_cons_zero, List.getElem?_cons_succ, get_a0, List.lookup_cons, beq_self_eq_true, gLst]
      exact ⟨trivial, trivial, sz2, FnEnd.pure (Upd.refl μ) rfl q⟩
theorem told11_okn {w : Str} (hw : asc w) : D.okn 12 (told11D w) = true := by
  unfold told11D
  have aw : ∀ n, D.okn n (.str w) = true := fun n => by cases n <;> exact asc_ok hw
  by_cases hb : badW w = true
  · rw [if_pos hb]
    show (D.okn 11 (.str (Str.ofString "text")) && (D.okn 11 (.str w) && (true && true))) = true
    rw [aw]; decide +kernel
  rw [if_neg hb]
  have ha := (rowsW_ok hw).2.2
  cases he : errT (rowsW w) with
  | none =>
    have a1 : D.okn 11 (rowsD (rowsW w)) = true := okn_rowsD (fun r hr x hx => (ha r hr x hx).1) 9
    show (D.okn 11 (.str (Str.ofString "table")) && (D.okn 11 (rowsD (rowsW w)) && (D.okn 11 (.str w) && true))) = true
    rw [a1, aw]; decide +kernel
  | some e =>
    rcases errT_form he with ⟨k, rfl⟩ | ⟨x, ⟨r, hr, hx⟩, rfl⟩
    · show (D.okn 11 (.str (Str.ofString "count")) && (true && true)) = true
      decide +kernel
    · have := asc_ok (ha r hr x hx).1
      show (D.okn 11 (.str (Str.ofString "name")) && (D.okn 11 (.str x) && true)) = true
      rw [show D.okn 11 (.str x) = true from this]
      decide +kernel
theorem told11_lst (w : Str) : ∃ s r, told11D w = .lst (.str s :: r) ∧ asc s ∧ (s = Str.ofString "table" → badW w = false ∧ errT (rowsW w) = none) := by
  unfold told11D
  by_cases hb : badW w = true
  · rw [if_pos hb]
    exact ⟨_, _, rfl, asc_dec (by decide +kernel), fun h => absurd h (by decide +kernel)⟩
  rw [if_neg hb]
  cases he : errT (rowsW w) with
  | none => exact ⟨_, _, rfl, asc_dec (by decide +kernel), fun _ => ⟨Bool.eq_false_iff.mpr hb, rfl⟩⟩
  | some e =>
    rcases errT_form he with ⟨k, rfl⟩ | ⟨x, _, rfl⟩
    · exact ⟨Str.ofString "count", _, rfl, asc_dec (by decide +kernel), fun h => absurd h (by decide +kernel)⟩
    · exact ⟨Str.ofString "name", _, rfl, asc_dec (by decide +kernel), fun h => absurd h (by decide +kernel)⟩
theorem ne_self11 {μ : Mu} {d : D} {Q : D → Mu → Prop} (hl : lk μ d = d) (h : D.okn 12 d = true) (q : Q (.bl false) μ) : gNe d d μ Q := by
  unfold gNe deqOk deq
  rw [hl, SeqAt.eqv_refl _ (okn_lay 12 d h).1]
  exact ⟨⟨h, h⟩, q⟩
end DV
namespace DV
open PySem PySem.Spec PyProof.Rows L2
def S_law : DSp := fun ds μ Q _ => ∃ ns : List Int, ds = [.scr ns] ∧ ns.length ≤ 63 ∧ μ = [] ∧ ∀ μ', Q (.bl true) μ'
theorem sum_leN : ∀ {ts : List Str} {B : Nat}, (∀ x ∈ ts, x.length ≤ B) → (ts.map (·.length)).sum ≤ ts.length * B
  | [], _, _ => by simp
  | t :: ts, B, h => by
    rw [List.map_cons, List.sum_cons, List.length_cons, Nat.add_mul]
    have h1 := h t List.mem_cons_self
    have h2 := sum_leN (ts := ts) fun x hx => h x (List.mem_cons_of_mem _ hx)
    omega
theorem strT_small {g : List (List Str)} (h1 : g.length ≤ 8) (h2 : ∀ r ∈ g, r.length ≤ 8) (h3 : ∀ r ∈ g, ∀ x ∈ r, asc x ∧ x.length ≤ 6) : asc (strT g) ∧ (strT g).length ≤ 500 := by
  unfold strT
  have rl : ∀ p ∈ g.map (fun r => Txt.join (Str.ofString " ") r), asc p ∧ p.length ≤ 56 := by
    intro p hp
    obtain ⟨r, hr, rfl⟩ := List.mem_map.mp hp
    refine ⟨asc_joinB sep1.a fun x hx => (h3 r hr x hx).1, ?_⟩
    have t := tot_join sep1 r
    unfold Tot at t
    have s := sum_leN (ts := r) (B := 6) fun x hx => (h3 r hr x hx).2
    have l := h2 r hr
    have e : (Str.ofString " ").length = 1 := by decide +kernel
    rw [e] at t
    omega
  refine ⟨asc_joinB sep3.a fun p hp => (rl p hp).1, ?_⟩
  have t := tot_join sep3 (g.map (fun r => Txt.join (Str.ofString " ") r))
  unfold Tot at t
  have s := sum_leN (ts := g.map (fun r => Txt.join (Str.ofString " ") r)) (B := 56) fun x hx => (rl x hx).2
  have e : (Str.ofString " / ").length = 3 := by decide +kernel
  rw [e] at t
  rw [List.length_map] at s t
  exact Nat.le_trans t (by omega)
def t_law_f0 (C : Cs) : DTS := dAsg (dOp S_l_spoiled11 (dCons (dVar 1) (dCons (dVar 3) (dNil)))) (dName 3)
def t_law_8 (C : Cs) : DTS := dRet (dOr (dBin gNe (dBin gIx (dVar 5) (dC (.int 0))) (dC (.str "table"))) (dOwnEq C.T (S_T_eqX C) (dCMeth C.T (S_T_read C) (dC (.cls C.T)) (dArgK [0] 0 1 (dNil) (dCons (dVar 3) (dNil)))) (dMake C.T (S_T_initL C) (dCons (dOp S_l_parsed11 (dCons (dVar 3) (dNil))) (dNil)))))
def t_law_7 (C : Cs) : DTS := dSeq (dIf (dOrT (dTest (dBin gNe (dOp (S_l_told11 C) (dCons (dVar 3) (dNil))) (dVar 5))) (dTest (dBin gNe (dOp (S_l_told11 C) (dCons (dVar 3) (dNil))) (dVar 5)))) (dRet (dC (.bl false))) (dNext)) (t_law_8 C)
def t_law_6 (C : Cs) : DTS := dSeq (dAsg (dOp (S_l_due11 C) (dCons (dVar 3) (dNil))) (dName 5)) (t_law_7 C)
def t_law_5 (C : Cs) : DTS := dSeq (dFor (dRange1 (dBin gIx (dCall gLst (dCons (dC (.int 0)) (dCons (dC (.int 1)) (dCons (dC (.int 2)) (dCons (dC (.int 3)) (dNil)))))) (dOp S_draw (dCons (dVar 1) (dCons (dC (.int 4)) (dNil)))))) (dName 4) (t_law_f0 C)) (t_law_6 C)
def t_law_4 (C : Cs) : DTS := dSeq (dIf (dTest (dBin gNe (dCall (gStrOwn C.T (S_T_str C)) (dCons (dMake C.T (S_T_initL C) (dCons (dVar 2) (dNil))) dNil)) (dVar 3))) (dRet (dC (.bl false))) (dNext)) (t_law_5 C)
def t_law_3 (C : Cs) : DTS := dSeq (dAsg (dJoin (dC (.str " / ")) (dComp true [6] (dIter (dVar 2)) (cName 6) (dYes) (dJoin (dC (.str " ")) (dVar 6)))) (dName 3)) (t_law_4 C)
def t_law_2 (C : Cs) : DTS := dSeq (dAsg (dComp true [6] (dIter (dSlice true (dVar 2) dNoPart (dPart (dC (.int 8))))) (cName 6) (dYes) (dSlice true (dVar 6) dNoPart (dPart (dC (.int 8))))) (dName 2)) (t_law_3 C)
def t_law_1 (C : Cs) : DTS := dSeq (dAsg (dOp S_rows (dCons (dVar 1) (dCons (dOp S_names (dCons (dVar 1) (dCons (dBin gAdd (dC (.int 1)) (dOp S_draw (dCons (dVar 1) (dCons (dC (.int 6)) (dNil))))) (dNil)))) (dNil)))) (dName 2)) (t_law_2 C)
def t_law (C : Cs) : DTS := dSeq (dAsg (dOp S_start (dCons (dVar 0) (dNil))) (dName 1)) (t_law_1 C)
theorem law11_5 {C : Cs} {c : Nat} {w : Str} {a0 a2 a4 a5 a6 : Option D} {Q : D → Mu → Prop} {E : Exn → Mu → Prop} (hw : asc w) (hl : w.length ≤ 10000) (q : ∀ μ, Q (.bl true) μ) :
    t_law_6 C (dFn [] Q E) [a0, some (.ref 0), a2, some (.str w), a4, a5, a6] (MO c) := by
  unfold t_law_6
  rw [dSeq]
  simp only [dAsg, dOp, dCons, dNil, dVar, List.getElem?_cons_zero, List.getElem?_cons_succ]
  refine ⟨w, rfl, hw, hl, ?_⟩
  simp only [dName, List.set_cons_succ, List.set_cons_zero]
  have ok := told11_okn hw
  obtain ⟨s, r, e1, e2, e3⟩ := told11_lst w
  have lkm : ∀ μ, lk μ (told11D w) = told11D w := fun μ => by rw [e1]; rfl
  unfold t_law_7
  try dsimp only
  rw [dSeq]
  simp only [dIf, dOrT, dTest, dBin, dOp, dCons, dNil, dVar, List.getElem?_cons_zero, List.getElem?_cons_succ]
  refine ⟨w, rfl, hw, hl, ?_⟩
  refine ne_self11 (lkm _) ok ?_
  simp only [cond_false]
  refine ⟨w, rfl, hw, hl, ?_⟩
  refine ne_self11 (lkm _) ok ?_
  simp only [cond_false, dNext]
  unfold t_law_8
  try dsimp only
  simp only [dRet, dOr, dBin, dC, dVar, List.getElem?_cons_zero, List.getElem?_cons_succ]
  have at1 : asc (Str.ofString "table") := asc_dec (by decide +kernel)
  have ix : ∀ (Q' : D → Mu → Prop) μ, gIx (told11D w) (.int 0) μ Q' = Q' (.str s) μ := fun Q' μ => by
    rw [e1]
    simp only [gIx, lk, atI_zero]
  rw [ix]
  simp only [gNe]
  obtain ⟨d1, d2⟩ := deq_str (μ := MO c) e2 at1
  refine ⟨d1, ?_⟩
  rw [d2]
  by_cases hp : ¬ s = Str.ofString "table"
  · rw [decide_eq_false hp]
    simp only [Bool.not_false, cond_true]
    exact FnEnd.here (q _)
  have hp := Classical.not_not.mp hp
  obtain ⟨hb, he⟩ := e3 hp
  have tk := errT_none.mp he
  rw [decide_eq_true hp]
  simp only [Bool.not_true, cond_false, dOwnEq, dBin, dCMeth, dArgK, dMake, dOp, dCons, dNil, dC, dVar, List.getElem?_cons_zero, List.getElem?_cons_succ]
  refine ⟨by first | rfl | trivial, by first | rfl | trivial, by first | rfl | trivial, ?_⟩
  refine ⟨w, rfl, hw, hl, fun h => (by rw [hb] at h; cases h), fun _ => ⟨fun e h => (by rw [he] at h; cases h), fun _ => ?_⟩⟩
  refine ⟨w, rfl, hw, hl, ?_⟩
  rw [if_neg (by rw [hb]; simp)]
  refine make_tabL (C := C) (g := rowsW w) (fun e => TSee.data) (rowsW_short hw hl) (fun _ => ?_) fun e h => by rw [he] at h; cases h
  rw [tab_ins]
  unfold gOwnEq
  refine ⟨rfl, rfl, .inl ⟨rowsW w, rowsW w, rfl, tk, tk, ?_⟩⟩
  rw [decide_eq_true rfl]
  exact ⟨⟨true, rfl⟩, FnEnd.here (q _)⟩
theorem law11_3 {C : Cs} {c : Nat} {w : Str} {a0 a2 a4 a5 a6 : Option D} {Q : D → Mu → Prop} {E : Exn → Mu → Prop} (hw : asc w) (hl : w.length ≤ 500) (hc : 1000 ≤ c) (q : ∀ μ, Q (.bl true) μ) :
    t_law_5 C (dFn [] Q E) [a0, some (.ref 0), a2, some (.str w), a4, a5, a6] (MO c) := by
  unfold t_law_5
  rw [dSeq]
  simp only [dFor, dRange1, dBin, dCall, dOp, dCons, dNil, dC, dVar, List.getElem?_cons_zero, List.getElem?_cons_succ, gLst]
  refine ⟨by rw [sizeLine_eq]; exact (by decide : 4 ≤ 16777216), ?_⟩
  refine draw_MO (by omega) (by decide) (by decide) fun i i0 i1 => ?_
  simp only [gIx, lk]
  have : ∃ n : Nat, atI [D.int 0, D.int 1, D.int 2, D.int 3] i = some (.int (n : Int)) ∧ n ≤ 3 := by
    have : i = 0 ∨ i = 1 ∨ i = 2 ∨ i = 3 := by omega
    rcases this with rfl | rfl | rfl | rfl
    · exact ⟨0, rfl, by omega⟩
    · exact ⟨1, rfl, by omega⟩
    · exact ⟨2, rfl, by omega⟩
    · exact ⟨3, rfl, by omega⟩
  obtain ⟨n, e, hn⟩ := this
  rw [e]
  dsimp only
  rw [Int.toNat_natCast]
  refine ⟨by omega, ?_⟩
  refine loop_inv (src := none) (fun i Γ μ' => ∃ c' w b4, i ≤ n ∧ c ≤ c' + 1 + 10 * i ∧ asc w ∧ ((i = 0 ∧ w.length ≤ 500) ∨ (i = 1 ∧ w.length ≤ 1020) ∨ (i = 2 ∧ w.length ≤ 2060) ∨ (i = 3 ∧ w.length ≤ 4140)) ∧ Γ = [a0, some (.ref 0), a2, some (.str w), b4, a5, a6] ∧ μ' = MO c') ⟨c - 1, w, a4, by omega, by omega, hw, .inl ⟨rfl, hl⟩, rfl, rfl⟩ ?_ ?_
  · rintro j d Γ μ' hd ⟨c', w, b4, hj, h1, h3, h2, rfl, rfl⟩
    obtain ⟨hj2, rfl⟩ := irng_get hd
    refine ⟨trivial, fun Kn kn => ?_⟩
    unfold t_law_f0
    simp only [dName, List.set_cons_succ, List.set_cons_zero, dAsg, dOp, dCons, dNil, dVar, List.getElem?_cons_zero, List.getElem?_cons_succ]
    refine ⟨0, c', w, rfl, rfl, by omega, h3, by omega, fun c2 w' k1 k2 k3 => ?_⟩
    simp only [dName, List.set_cons_succ, List.set_cons_zero]
    rw [M_MO]
    exact kn _ _ ⟨c2, w', _, by omega, by omega, k2, by omega, rfl, rfl⟩
  · rintro Γ μ' ⟨c', w, b4, hj, h1, h3, h2, rfl, rfl⟩
    rw [irng_len] at h2
    exact ⟨trivial, law11_5 h3 (by omega) q⟩
theorem rd_law {C : Cs} {n1 n2 n3 n4 n5 n6 n7 : Str} : ∀ ds μ Q E, S_law ds μ Q E → t_law C (dFn μ Q E) (start0 [n1, n2, n3, n4, n5, n6, n7] ds) μ := by
  rintro ds μ Q E ⟨ns, rfl, hl, rfl, q⟩
  unfold t_law
  rw [dSeq]
  simp only [dAsg, dOp, dCons, dNil, dVar, dName, start0, List.map_cons, List.map_nil, List.length_cons, List.length_nil, List.replicate, List.cons_append, List.nil_append, List.getElem?_cons_zero, List.set_cons_succ, List.set_cons_zero]
  refine ⟨ns, rfl, hl, by simp, ?_⟩
  show t_law_1 C _ _ (MO 1099511627776)
  obtain ⟨c, hcc⟩ : ∃ c, c = 1099511627776 := ⟨_, rfl⟩
  rw [← hcc]
  unfold t_law_1
  rw [dSeq]
  simp only [dAsg, dOp, dBin, dCons, dNil, dC, dVar, List.getElem?_cons_zero, List.getElem?_cons_succ]
  refine draw_MO (by omega) (by decide) (by decide) fun i i0 i1 => ?_
  simp only [gAdd, lk]
  refine ⟨0, c - 1, 1 + i, rfl, MO_get, by omega, by omega, by omega, fun c1 ws h0 h1 hw => ?_⟩
  have := hw.len
  refine ⟨0, c1, ws, rfl, rfl, by omega, by omega, by omega, fun c2 g b1 bg => ?_⟩
  have hM : M ((MO (c - 1)).set 0 (.orc (c1, true))) 0 c2 = MO c2 := rfl
  rw [hM]
  have g2 := bg.h2
  have w2 := bg.w2
  simp only [dName, List.set_cons_succ, List.set_cons_zero]
  unfold t_law_2
  try dsimp only
  rw [dSeq]
  simp only [dAsg, dComp, dIter, dSlice, dNoPart, dPart, dC, dVar, List.getElem?_cons_zero, List.getElem?_cons_succ, gridD, lk, dFin, wipeG, List.set_cons_succ, List.set_cons_zero]
  rw [cut8 (by rw [List.length_map]; exact g2)]
  refine comp_rows (g := g) rowD (by omega) (fun r hr K1 k1 => ?_) ?_
  · simp only [dSlice, dNoPart, dPart, dC, dVar, List.set_cons_succ, List.set_cons_zero, List.getElem?_cons_zero, List.getElem?_cons_succ, rowD, lk, dFin]
    rw [cut8 (by rw [List.length_map, bg.eq r hr]; exact w2)]
    exact k1
  simp only [dFin, dName, List.set_cons_succ, List.set_cons_zero]
  have hok : ∀ r ∈ g, ∀ x ∈ r, asc x ∧ x.length ≤ 6 := fun r hr x hx => by
    have := valid_asc (hw.ok x (bg.mem r hr x hx))
    exact ⟨this.1, this.2.1⟩
  obtain ⟨sa, sl⟩ := strT_small g2 (fun r hr => by rw [bg.eq r hr]; exact w2) hok
  unfold t_law_3
  try dsimp only
  rw [dSeq]
  simp only [dAsg, dJoin, dComp, dIter, dC, dVar, List.getElem?_cons_zero, List.getElem?_cons_succ, wipeG, List.set_cons_succ, List.set_cons_zero]
  refine ⟨⟨_, rfl⟩, ?_⟩
  refine comp_rows (g := g) (fun r => D.str (Txt.join (Str.ofString " ") r)) (by omega) (fun r hr K1 k1 => ?_) ?_
  · simp only [dJoin, dC, dVar, List.set_cons_succ, List.set_cons_zero, List.getElem?_cons_zero, List.getElem?_cons_succ, rowD, lk, strD_map]
    refine ⟨⟨_, rfl⟩, ?_, k1⟩
    have e : (Str.ofString " ").length = 1 := by decide +kernel
    have s := sum_leN (ts := r) (B := 6) fun x hx => (hok r hr x hx).2
    have l := bg.eq r hr
    rw [e]; omega
  simp only [dFin, lk]
  have em : (g.map fun r => D.str (Txt.join (Str.ofString " ") r)) = (g.map fun r => Txt.join (Str.ofString " ") r).map .str := by rw [List.map_map]; rfl
  rw [em, strD_map]
  dsimp only
  refine ⟨?_, ?_⟩
  · have e : (Str.ofString " / ").length = 3 := by decide +kernel
    have s := sum_leN (ts := g.map fun r => Txt.join (Str.ofString " ") r) (B := 56) fun p hp => by
      obtain ⟨r, hr, rfl⟩ := List.mem_map.mp hp
      have t := tot_join sep1 r
      unfold Tot at t
      have s := sum_leN (ts := r) (B := 6) fun x hx => (hok r hr x hx).2
      have l := bg.eq r hr
      have e : (Str.ofString " ").length = 1 := by decide +kernel
      rw [e] at t
      omega
    rw [List.length_map] at s
    rw [List.length_map, e]
    omega
  simp only [dName, List.set_cons_succ, List.set_cons_zero]
  show t_law_4 C _ [_, _, _, some (.str (strT g)), _, _, _] _
  unfold t_law_4
  try dsimp only
  rw [dSeq]
  simp only [dIf, dTest, dBin, dCall, dMake, dCons, dNil, dVar, List.getElem?_cons_zero, List.getElem?_cons_succ]
  have tk : TOk g := bg.tokN (by omega) hw.ok
  refine make_tabL (C := C) (g := g) (fun e => TSee.data) (fun r hr x hx => by have := (hok r hr x hx).2; omega) (fun _ => ?_) fun e he => by rw [errT_none.mpr tk] at he; cases he
  rw [tab_ins]
  simp only [gStrOwn]
  refine ⟨rfl, g, rfl, tk, _, rfl, ?_⟩
  obtain ⟨d1, d2⟩ := deq_str (μ := MO c2) sa sa
  simp only [gNe]
  refine ⟨d1, ?_⟩
  rw [d2, decide_eq_true rfl]
  simp only [Bool.not_true, cond_false, dNext]
  exact law11_3 sa sl (by omega) q
end DV
namespace K11
open PySem PySem.Spec PyProof.Rows L2 DV
def top (i : Nat) : Stmt := PySem.Challenge.pw_twochoosers_k11_table_texts.main.body.getD i (.Pass ⟨0, 0, 0, 0⟩)
abbrev s_BadCount__init_ : Stmt := inClass (top 4) 0
abbrev s_BadName__init_ : Stmt := inClass (top 3) 0
abbrev s_BadText__init_ : Stmt := inClass (top 5) 0
abbrev s_valid_name : Stmt := top 11
abbrev s_check_number : Stmt := top 15
abbrev s_check_length : Stmt := top 18
abbrev s_check_linesL : Stmt := top 19
abbrev s_exchanged : Stmt := top 20
abbrev s_is_word : Stmt := top 21
abbrev s_T_initL : Stmt := inClass (top 22) 0
abbrev s_T_read : Stmt := inClass (top 22) 1
abbrev s_T_lines : Stmt := inClass (top 22) 2
abbrev s_T_eq : Stmt := inClass (top 22) 9
abbrev s_T_str : Stmt := inClass (top 22) 10
abbrev s_start : Stmt := top 24
abbrev s_draw : Stmt := top 25
abbrev s_names : Stmt := top 26
abbrev s_order : Stmt := top 28
abbrev s_flipped : Stmt := top 29
abbrev s_mixed : Stmt := top 31
abbrev s_smooth : Stmt := top 30
abbrev s_any_tree : Stmt := top 32
abbrev s_ways : Stmt := top 33
abbrev s_tree_rows : Stmt := top 34
abbrev s_no_tree : Stmt := top 35
abbrev s_rows : Stmt := top 36
abbrev s_l_held : Stmt := top 37
abbrev s_l_signs11 : Stmt := top 27
abbrev s_l_spoiled11 : Stmt := top 38
abbrev s_l_parsed11 : Stmt := top 39
abbrev s_l_told11 : Stmt := top 40
abbrev s_l_due11 : Stmt := top 41
abbrev s_law : Stmt := top 42
structure Txt (K : PySem.W.Frag) (C : Cs) (mg : Str → Option Value) : Prop where
  m_len : mg "len" = none
  m_abs : mg "abs" = none
  m_int : mg "int" = none
  m_list : mg "list" = none
  m_tuple : mg "tuple" = none
  m_range : mg "range" = none
  m_isinstance : mg "isinstance" = none
  m_str : mg "str" = none
  m_sorted : mg "sorted" = none
  m_set : mg "set" = none
  m_LETTERS : ∃ t, mg "LETTERS" = some (.str "abcdefghijklmnopqrstuvwxyz" t)
  m_DIGITS : ∃ t, mg "DIGITS" = some (.str "0123456789" t)
  m_LONGEST : ∃ t, mg "LONGEST" = some (.int 6 t)
  m_MOST_OUTCOMES : ∃ t, mg "MOST_OUTCOMES" = some (.int 6 t)
  m_MOST_LINES : ∃ t, mg "MOST_LINES" = some (.int 8 t)
  c_Table : Cls K C.T
  n_Table_columns : NoAttr K C.T "columns"
  n_Table_names : NoAttr K C.T "names"
  n_Table_rows : NoAttr K C.T "rows"
  i_Table : IsiC K C.T
  gc_Table : mg "Table" = some (.ref C.T)
  g_BadCount : mg "BadCount" = some (.ref (xa K .BadCount))
  g_BadName : mg "BadName" = some (.ref (xa K .BadName))
  g_BadText : mg "BadText" = some (.ref (xa K .BadText))
  x_BadCount_count : XfC K (xa K .BadCount) ∧ PySem.W.findIn K (.ref (xa K .BadCount)) "count" = some none
  x_BadName_name : XfC K (xa K .BadName) ∧ PySem.W.findIn K (.ref (xa K .BadName)) "name" = some none
  x_BadText_text : XfC K (xa K .BadText) ∧ PySem.W.findIn K (.ref (xa K .BadText)) "text" = some none
  ix_BadText : IsX K .BadText (He.ga K "ChooserError")
  em : EmOk [.BadName, .BadCount, .BadText, .BadCell] K
  bX : BaseX K (He.ga K "ChooserError")
  g_Base : mg "ChooserError" = some (.ref (He.ga K "ChooserError"))
section
variable {P : Program} {w : World} {K : PySem.W.Frag} {mg : Str → Option Value} {base : Heap} {C : Cs}
theorem sc_BadCount__init_ : FnScope ["self", "count"] ["self", "count"] (defScope s_BadCount__init_) := ⟨rfl, rfl, rfl, by decide +kernel, rfl, by decide +kernel, by decide +kernel⟩
theorem has_BadCount__init_ (T : Txt K C mg) {f : Addr} {fd : FuncData} (F : Fun K "__init__" "BadCount.__init__" s_BadCount__init_ f fd) (m : ErrC K .BadCount f) (b : Binds K fd ["self", "count"] []) (no : PySem.W.findIn K (.ref (xa K .BadCount)) "count" = some none) : HasE P w K mg base .BadCount "count" := by
  refine ⟨f, fd, "self", "count", T.g_BadCount, m, b, ok_I1 (m := "this number of items is not allowed") F sc_BadCount__init_ m.T no fun cdv A outer s H E => ?_⟩
  exact pss_cons (ps_expr (pe_baseInit T.bX rfl T.g_Base rfl (pa_cons (pe_var (i := 0) rfl (by first | exact Or.inl rfl | exact Or.inr (Or.inl rfl))) (pa_cons pe_str pa_nil)))) (pss_one (ps_ost (pe_var (i := 0) rfl (by first | exact Or.inl rfl | exact Or.inr (Or.inl rfl))) (pe_var (i := 1) rfl (by first | exact Or.inl rfl | exact Or.inr (Or.inl rfl)))))
theorem sc_BadName__init_ : FnScope ["self", "name"] ["self", "name"] (defScope s_BadName__init_) := ⟨rfl, rfl, rfl, by decide +kernel, rfl, by decide +kernel, by decide +kernel⟩
theorem has_BadName__init_ (T : Txt K C mg) {f : Addr} {fd : FuncData} (F : Fun K "__init__" "BadName.__init__" s_BadName__init_ f fd) (m : ErrC K .BadName f) (b : Binds K fd ["self", "name"] []) (no : PySem.W.findIn K (.ref (xa K .BadName)) "name" = some none) : HasE P w K mg base .BadName "name" := by
  refine ⟨f, fd, "self", "name", T.g_BadName, m, b, ok_I1 (m := "this string is not a name") F sc_BadName__init_ m.T no fun cdv A outer s H E => ?_⟩
  exact pss_cons (ps_expr (pe_baseInit T.bX rfl T.g_Base rfl (pa_cons (pe_var (i := 0) rfl (by first | exact Or.inl rfl | exact Or.inr (Or.inl rfl))) (pa_cons pe_str pa_nil)))) (pss_one (ps_ost (pe_var (i := 0) rfl (by first | exact Or.inl rfl | exact Or.inr (Or.inl rfl))) (pe_var (i := 1) rfl (by first | exact Or.inl rfl | exact Or.inr (Or.inl rfl)))))
theorem sc_BadText__init_ : FnScope ["self", "text"] ["self", "text"] (defScope s_BadText__init_) := ⟨rfl, rfl, rfl, by decide +kernel, rfl, by decide +kernel, by decide +kernel⟩
theorem has_BadText__init_ (T : Txt K C mg) {f : Addr} {fd : FuncData} (F : Fun K "__init__" "BadText.__init__" s_BadText__init_ f fd) (m : ErrC K .BadText f) (b : Binds K fd ["self", "text"] []) (no : PySem.W.findIn K (.ref (xa K .BadText)) "text" = some none) : HasE P w K mg base .BadText "text" := by
  refine ⟨f, fd, "self", "text", T.g_BadText, m, b, ok_I1 (m := "this text is not of the right form") F sc_BadText__init_ m.T no fun cdv A outer s H E => ?_⟩
  exact pss_cons (ps_expr (pe_baseInit T.bX rfl T.g_Base rfl (pa_cons (pe_var (i := 0) rfl (by first | exact Or.inl rfl | exact Or.inr (Or.inl rfl))) (pa_cons pe_str pa_nil)))) (pss_one (ps_ost (pe_var (i := 0) rfl (by first | exact Or.inl rfl | exact Or.inr (Or.inl rfl))) (pe_var (i := 1) rfl (by first | exact Or.inl rfl | exact Or.inr (Or.inl rfl)))))
theorem sc_valid_name : FnScope ["text", "char"] ["text"] (defScope s_valid_name) := ⟨rfl, rfl, rfl, by decide +kernel, rfl, by decide +kernel, by decide +kernel⟩
theorem has_valid_name (T : Txt K C mg)  {f : Addr} {fd : FuncData} (F : Fun K "valid_name" "valid_name" s_valid_name f fd) (m : mg "valid_name" = some (.ref f)) (b : Binds K fd ["text"] []) (kb : (fun _ => True) fd) :
    Has P w K mg base "valid_name" 1 ["text"] S_valid_name (fun _ => True) := by
  refine ⟨f, fd, m, F.kp, b, kb, fun_deep (T := t_valid_name) (k := 0) F sc_valid_name ?_ (fun cdv A outer s H E hr => ?_) rd_valid_name⟩
  · intro ds μ Q E h; first | (obtain ⟨_, rfl, _⟩ := h; rfl; done) | (obtain ⟨rfl, _⟩ := h; rfl; done) | (obtain ⟨_, rfl, _⟩ := h; rfl; done) | (obtain ⟨_, _, rfl, _⟩ := h; rfl; done) | (obtain ⟨_, _, _, rfl, _⟩ := h; rfl; done) | (obtain ⟨_, _, _, _, rfl, _⟩ := h; rfl; done) | (obtain ⟨_, _, _, _, _, rfl, _⟩ := h; rfl; done) | (obtain ⟨_, _, _, _, _, _, rfl, _⟩ := h; rfl; done) | (obtain ⟨_, _, _, _, _, _, _, rfl, _⟩ := h; rfl; done) | (obtain ⟨_, _, _, _, _, _, _, _, rfl, _⟩ := h; rfl; done) | (obtain ⟨_, _, _, _, _, _, _, _, _, rfl, _⟩ := h; rfl; done) | (rcases h with ⟨_, rfl | rfl, _⟩ <;> rfl) | (rcases h with ⟨_, _, rfl | rfl, _⟩ <;> rfl) | (rcases h with h | h <;> first | (obtain ⟨rfl, _⟩ := h; rfl; done) | (obtain ⟨_, rfl, _⟩ := h; rfl; done) | (obtain ⟨_, _, rfl, _⟩ := h; rfl; done) | (obtain ⟨_, _, _, rfl, _⟩ := h; rfl; done) | (obtain ⟨_, _, _, _, rfl, _⟩ := h; rfl; done) | (obtain ⟨_, _, _, _, _, rfl, _⟩ := h; rfl; done) | (obtain ⟨_, _, _, _, _, _, rfl, _⟩ := h; rfl; done) | (obtain ⟨_, _, _, _, _, _, _, rfl, _⟩ := h; rfl; done) | (obtain ⟨_, _, _, _, _, _, _, _, rfl, _⟩ := h; rfl; done) | (obtain ⟨_, _, _, _, _, _, _, _, _, rfl, _⟩ := h; rfl; done) | (rcases h with ⟨_, rfl | rfl, _⟩ <;> rfl))
  · have tk := takes_of (X := cxOf (L2.CX P w) P w K mg base ["text", "char"] "valid_name" (defScope s_valid_name) f cdv A outer s H E) rfl rfl rfl rfl
    have hp := passes_of (X := cxOf (L2.CX P w) P w K mg base ["text", "char"] "valid_name" (defScope s_valid_name) f cdv A outer s H E) rfl
    exact dss_cons (ds_if (PW.pt (pw_or' (dt_not (dt_chain op_le op_le (de_int pe_int) (de_len rfl T.m_len (de_var (pv 0))) (de_int (pe_glob rfl T.m_LONGEST.choose_spec ⟨_, rfl⟩)))) (pw_or1 (dt_notin (de_sub_ (de_var (pv 0)) (de_int pe_int)) (de_str (pe_glob rfl T.m_LETTERS.choose_spec ⟨_, rfl⟩)))))) (dss_one (ds_ret (de_bl pe_bl))) (dss_nil))
      (dss_cons (ds_for hp rfl (di_any (de_var (pv 0))) (dg_name (pg_name (i := 1) sc_valid_name.nd rfl (by first | exact Or.inl rfl | exact Or.inr rfl))) (dss_one (ds_if (PW.pt (pw_and' (dt_notin (de_var (pv 1)) (de_str (pe_glob rfl T.m_LETTERS.choose_spec ⟨_, rfl⟩))) (pw_and1 (dt_notin (de_var (pv 1)) (de_str (pe_glob rfl T.m_DIGITS.choose_spec ⟨_, rfl⟩)))))) (dss_one (ds_ret (de_bl pe_bl))) (dss_nil))))
      (dss_one (ds_ret (de_bl pe_bl))))
theorem sc_check_number : FnScope ["count"] ["count"] (defScope s_check_number) := ⟨rfl, rfl, rfl, by decide +kernel, rfl, by decide +kernel, by decide +kernel⟩
theorem has_check_number (T : Txt K C mg) (h_BadCount__init_ : HasE P w K mg base .BadCount "count") {f : Addr} {fd : FuncData} (F : Fun K "check_number" "check_number" s_check_number f fd) (m : mg "check_number" = some (.ref f)) (b : Binds K fd ["count"] []) (kb : (fun _ => True) fd) :
    Has P w K mg base "check_number" 3 ["count"] S_check_numberX (fun _ => True) := by
  refine ⟨f, fd, m, F.kp, b, kb, fun_deep (T := t_check_number) (k := 2) F sc_check_number ?_ (fun cdv A outer s H E hr => ?_) rd_check_numberX⟩
  · intro ds μ Q E h; first | (obtain ⟨rfl, _⟩ := h; rfl; done) | (obtain ⟨_, rfl, _⟩ := h; rfl; done) | (obtain ⟨_, _, rfl, _⟩ := h; rfl; done) | (obtain ⟨_, _, _, rfl, _⟩ := h; rfl; done) | (obtain ⟨_, _, _, _, rfl, _⟩ := h; rfl; done) | (obtain ⟨_, _, _, _, _, rfl, _⟩ := h; rfl; done) | (obtain ⟨_, _, _, _, _, _, rfl, _⟩ := h; rfl; done) | (obtain ⟨_, _, _, _, _, _, _, rfl, _⟩ := h; rfl; done) | (obtain ⟨_, _, _, _, _, _, _, _, rfl, _⟩ := h; rfl; done) | (obtain ⟨_, _, _, _, _, _, _, _, _, rfl, _⟩ := h; rfl; done) | (rcases h with ⟨_, rfl | rfl, _⟩ <;> rfl) | (rcases h with ⟨_, _, rfl | rfl, _⟩ <;> rfl) | (rcases h with h | h <;> first | (obtain ⟨rfl, _⟩ := h; rfl; done) | (obtain ⟨_, rfl, _⟩ := h; rfl; done) | (obtain ⟨_, _, rfl, _⟩ := h; rfl; done) | (obtain ⟨_, _, _, rfl, _⟩ := h; rfl; done) | (obtain ⟨_, _, _, _, rfl, _⟩ := h; rfl; done) | (obtain ⟨_, _, _, _, _, rfl, _⟩ := h; rfl; done) | (obtain ⟨_, _, _, _, _, _, rfl, _⟩ := h; rfl; done) | (obtain ⟨_, _, _, _, _, _, _, rfl, _⟩ := h; rfl; done) | (obtain ⟨_, _, _, _, _, _, _, _, rfl, _⟩ := h; rfl; done) | (obtain ⟨_, _, _, _, _, _, _, _, _, rfl, _⟩ := h; rfl; done) | (rcases h with ⟨_, rfl | rfl, _⟩ <;> rfl))
  · have tk := takes_of (X := cxOf (L2.CX P w) P w K mg base ["count"] "check_number" (defScope s_check_number) f cdv A outer s H E) rfl rfl rfl rfl
    have hp := passes_of (X := cxOf (L2.CX P w) P w K mg base ["count"] "check_number" (defScope s_check_number) f cdv A outer s H E) rfl
    exact dss_one (ds_if (dt_not (dt_chain op_le op_le (de_int pe_int) (de_var (pv 0)) (de_int (pe_glob rfl T.m_MOST_OUTCOMES.choose_spec ⟨_, rfl⟩)))) (dss_one (ds_raise h_BadCount__init_ (hr.mono (by decide)) rfl tk (de_var (pv 0)))) (dss_nil))
theorem sc_check_length : FnScope ["count"] ["count"] (defScope s_check_length) := ⟨rfl, rfl, rfl, by decide +kernel, rfl, by decide +kernel, by decide +kernel⟩
theorem has_check_length (T : Txt K C mg) (h_BadCount__init_ : HasE P w K mg base .BadCount "count") {f : Addr} {fd : FuncData} (F : Fun K "check_length" "check_length" s_check_length f fd) (m : mg "check_length" = some (.ref f)) (b : Binds K fd ["count"] []) (kb : (fun _ => True) fd) :
    Has P w K mg base "check_length" 3 ["count"] S_check_lengthX (fun _ => True) := by
  refine ⟨f, fd, m, F.kp, b, kb, fun_deep (T := t_check_length) (k := 2) F sc_check_length ?_ (fun cdv A outer s H E hr => ?_) rd_check_lengthX⟩
  · intro ds μ Q E h; first | (obtain ⟨rfl, _⟩ := h; rfl; done) | (obtain ⟨_, rfl, _⟩ := h; rfl; done) | (obtain ⟨_, _, rfl, _⟩ := h; rfl; done) | (obtain ⟨_, _, _, rfl, _⟩ := h; rfl; done) | (obtain ⟨_, _, _, _, rfl, _⟩ := h; rfl; done) | (obtain ⟨_, _, _, _, _, rfl, _⟩ := h; rfl; done) | (obtain ⟨_, _, _, _, _, _, rfl, _⟩ := h; rfl; done) | (obtain ⟨_, _, _, _, _, _, _, rfl, _⟩ := h; rfl; done) | (obtain ⟨_, _, _, _, _, _, _, _, rfl, _⟩ := h; rfl; done) | (obtain ⟨_, _, _, _, _, _, _, _, _, rfl, _⟩ := h; rfl; done) | (rcases h with ⟨_, rfl | rfl, _⟩ <;> rfl) | (rcases h with ⟨_, _, rfl | rfl, _⟩ <;> rfl) | (rcases h with h | h <;> first | (obtain ⟨rfl, _⟩ := h; rfl; done) | (obtain ⟨_, rfl, _⟩ := h; rfl; done) | (obtain ⟨_, _, rfl, _⟩ := h; rfl; done) | (obtain ⟨_, _, _, rfl, _⟩ := h; rfl; done) | (obtain ⟨_, _, _, _, rfl, _⟩ := h; rfl; done) | (obtain ⟨_, _, _, _, _, rfl, _⟩ := h; rfl; done) | (obtain ⟨_, _, _, _, _, _, rfl, _⟩ := h; rfl; done) | (obtain ⟨_, _, _, _, _, _, _, rfl, _⟩ := h; rfl; done) | (obtain ⟨_, _, _, _, _, _, _, _, rfl, _⟩ := h; rfl; done) | (obtain ⟨_, _, _, _, _, _, _, _, _, rfl, _⟩ := h; rfl; done) | (rcases h with ⟨_, rfl | rfl, _⟩ <;> rfl))
  · have tk := takes_of (X := cxOf (L2.CX P w) P w K mg base ["count"] "check_length" (defScope s_check_length) f cdv A outer s H E) rfl rfl rfl rfl
    have hp := passes_of (X := cxOf (L2.CX P w) P w K mg base ["count"] "check_length" (defScope s_check_length) f cdv A outer s H E) rfl
    exact dss_one (ds_if (dt_not (dt_chain op_le op_le (de_int pe_int) (de_var (pv 0)) (de_int (pe_glob rfl T.m_MOST_LINES.choose_spec ⟨_, rfl⟩)))) (dss_one (ds_raise h_BadCount__init_ (hr.mono (by decide)) rfl tk (de_var (pv 0)))) (dss_nil))
theorem sc_check_linesL : FnScope ["rows", "row", "name"] ["rows"] (defScope s_check_linesL) := ⟨rfl, rfl, rfl, by decide +kernel, rfl, by decide +kernel, by decide +kernel⟩
theorem has_check_linesL (T : Txt K C mg) (h_BadCount__init_ : HasE P w K mg base .BadCount "count") (h_BadName__init_ : HasE P w K mg base .BadName "name") (h_check_length : Has P w K mg base "check_length" 3 ["count"] S_check_lengthX (fun _ => True)) (h_valid_name : Has P w K mg base "valid_name" 1 ["text"] S_valid_name (fun _ => True)) {f : Addr} {fd : FuncData} (F : Fun K "check_lines" "check_lines" s_check_linesL f fd) (m : mg "check_lines" = some (.ref f)) (b : Binds K fd ["rows"] []) (kb : (fun _ => True) fd) :
    Has P w K mg base "check_lines" 4 ["rows"] S_check_linesL (fun _ => True) := by
  refine ⟨f, fd, m, F.kp, b, kb, fun_deep (T := t_check_linesL) (k := 3) F sc_check_linesL ?_ (fun cdv A outer s H E hr => ?_) rd_check_linesL⟩
  · intro ds μ Q E h; first | (obtain ⟨rfl, _⟩ := h; rfl; done) | (obtain ⟨_, rfl, _⟩ := h; rfl; done) | (obtain ⟨_, _, rfl, _⟩ := h; rfl; done) | (obtain ⟨_, _, _, rfl, _⟩ := h; rfl; done) | (obtain ⟨_, _, _, _, rfl, _⟩ := h; rfl; done) | (obtain ⟨_, _, _, _, _, rfl, _⟩ := h; rfl; done) | (obtain ⟨_, _, _, _, _, _, rfl, _⟩ := h; rfl; done) | (obtain ⟨_, _, _, _, _, _, _, rfl, _⟩ := h; rfl; done) | (obtain ⟨_, _, _, _, _, _, _, _, rfl, _⟩ := h; rfl; done) | (obtain ⟨_, _, _, _, _, _, _, _, _, rfl, _⟩ := h; rfl; done) | (rcases h with ⟨_, rfl | rfl, _⟩ <;> rfl) | (rcases h with ⟨_, _, rfl | rfl, _⟩ <;> rfl) | (rcases h with h | h <;> first | (obtain ⟨rfl, _⟩ := h; rfl; done) | (obtain ⟨_, rfl, _⟩ := h; rfl; done) | (obtain ⟨_, _, rfl, _⟩ := h; rfl; done) | (obtain ⟨_, _, _, rfl, _⟩ := h; rfl; done) | (obtain ⟨_, _, _, _, rfl, _⟩ := h; rfl; done) | (obtain ⟨_, _, _, _, _, rfl, _⟩ := h; rfl; done) | (obtain ⟨_, _, _, _, _, _, rfl, _⟩ := h; rfl; done) | (obtain ⟨_, _, _, _, _, _, _, rfl, _⟩ := h; rfl; done) | (obtain ⟨_, _, _, _, _, _, _, _, rfl, _⟩ := h; rfl; done) | (obtain ⟨_, _, _, _, _, _, _, _, _, rfl, _⟩ := h; rfl; done) | (rcases h with ⟨_, rfl | rfl, _⟩ <;> rfl))
  · have tk := takes_of (X := cxOf (L2.CX P w) P w K mg base ["rows", "row", "name"] "check_lines" (defScope s_check_linesL) f cdv A outer s H E) rfl rfl rfl rfl
    have hp := passes_of (X := cxOf (L2.CX P w) P w K mg base ["rows", "row", "name"] "check_lines" (defScope s_check_linesL) f cdv A outer s H E) rfl
    exact dss_cons (ds_drop (de_fnH h_check_length (hr.mono (by decide)) rfl tk (da_cons (de_len rfl T.m_len (de_var (pv 0))) (da_nil))))
      (dss_cons (ds_drop (de_fnH h_check_length (hr.mono (by decide)) rfl tk (da_cons (de_len rfl T.m_len (de_sub_ (de_var (pv 0)) (de_int pe_int))) (da_nil))))
      (dss_cons (ds_for hp rfl (di_any (de_var (pv 0))) (dg_name (pg_name (i := 1) sc_check_linesL.nd rfl (by first | exact Or.inl rfl | exact Or.inr rfl))) (dss_one (ds_if (dt_ne hr.units (de_len rfl T.m_len (de_var (pv 1))) (de_len rfl T.m_len (de_sub_ (de_var (pv 0)) (de_int pe_int)))) (dss_one (ds_raise h_BadCount__init_ (hr.mono (by decide)) rfl tk (de_len rfl T.m_len (de_var (pv 1))))) (dss_nil))))
      (dss_one (ds_for hp rfl (di_any (de_var (pv 0))) (dg_name (pg_name (i := 1) sc_check_linesL.nd rfl (by first | exact Or.inl rfl | exact Or.inr rfl))) (dss_one (ds_for hp rfl (di_any (de_var (pv 1))) (dg_name (pg_name (i := 2) sc_check_linesL.nd rfl (by first | exact Or.inl rfl | exact Or.inr rfl))) (dss_one (ds_if (dt_not (dt_val (de_fnH h_valid_name (hr.mono (by decide)) rfl tk (da_cons (de_var (pv 2)) (da_nil))))) (dss_one (ds_raise h_BadName__init_ (hr.mono (by decide)) rfl tk (de_var (pv 2)))) (dss_nil)))))))))
theorem sc_exchanged : FnScope ["rows", "index", "row"] ["rows"] (defScope s_exchanged) := ⟨rfl, rfl, rfl, by decide +kernel, rfl, by decide +kernel, by decide +kernel⟩
theorem has_exchanged (T : Txt K C mg)  {f : Addr} {fd : FuncData} (F : Fun K "exchanged" "exchanged" s_exchanged f fd) (m : mg "exchanged" = some (.ref f)) (b : Binds K fd ["rows"] []) (kb : (fun _ => True) fd) :
    Has P w K mg base "exchanged" 1 ["rows"] S_exchanged (fun _ => True) := by
  refine ⟨f, fd, m, F.kp, b, kb, fun_deep (T := t_exchanged) (k := 0) F sc_exchanged ?_ (fun cdv A outer s H E hr => ?_) rd_exchanged⟩
  · intro ds μ Q E h; first | (obtain ⟨_, _, rfl, _⟩ := h; rfl; done) | (obtain ⟨rfl, _⟩ := h; rfl; done) | (obtain ⟨_, rfl, _⟩ := h; rfl; done) | (obtain ⟨_, _, rfl, _⟩ := h; rfl; done) | (obtain ⟨_, _, _, rfl, _⟩ := h; rfl; done) | (obtain ⟨_, _, _, _, rfl, _⟩ := h; rfl; done) | (obtain ⟨_, _, _, _, _, rfl, _⟩ := h; rfl; done) | (obtain ⟨_, _, _, _, _, _, rfl, _⟩ := h; rfl; done) | (obtain ⟨_, _, _, _, _, _, _, rfl, _⟩ := h; rfl; done) | (obtain ⟨_, _, _, _, _, _, _, _, rfl, _⟩ := h; rfl; done) | (obtain ⟨_, _, _, _, _, _, _, _, _, rfl, _⟩ := h; rfl; done) | (rcases h with ⟨_, rfl | rfl, _⟩ <;> rfl) | (rcases h with ⟨_, _, rfl | rfl, _⟩ <;> rfl) | (rcases h with h | h <;> first | (obtain ⟨rfl, _⟩ := h; rfl; done) | (obtain ⟨_, rfl, _⟩ := h; rfl; done) | (obtain ⟨_, _, rfl, _⟩ := h; rfl; done) | (obtain ⟨_, _, _, rfl, _⟩ := h; rfl; done) | (obtain ⟨_, _, _, _, rfl, _⟩ := h; rfl; done) | (obtain ⟨_, _, _, _, _, rfl, _⟩ := h; rfl; done) | (obtain ⟨_, _, _, _, _, _, rfl, _⟩ := h; rfl; done) | (obtain ⟨_, _, _, _, _, _, _, rfl, _⟩ := h; rfl; done) | (obtain ⟨_, _, _, _, _, _, _, _, rfl, _⟩ := h; rfl; done) | (obtain ⟨_, _, _, _, _, _, _, _, _, rfl, _⟩ := h; rfl; done) | (rcases h with ⟨_, rfl | rfl, _⟩ <;> rfl))
  · have tk := takes_of (X := cxOf (L2.CX P w) P w K mg base ["rows", "index", "row"] "exchanged" (defScope s_exchanged) f cdv A outer s H E) rfl rfl rfl rfl
    have hp := passes_of (X := cxOf (L2.CX P w) P w K mg base ["rows", "index", "row"] "exchanged" (defScope s_exchanged) f cdv A outer s H E) rfl
    exact dss_one (ds_ret (de_tuple rfl T.m_tuple (de_lc (fz := true) (own := [("index", 1)]) rfl sc_exchanged.nd (di_range1 rfl T.m_range (de_len rfl T.m_len (de_sub_ (de_var (pv 0)) (de_int pe_int)))) (blkOk_by (N := ["rows", "index", "row"]) (sc := defScope s_exchanged) (own := [("index", 1)]) (by decide +kernel)) (ct_name (by decide)) (fun _ _ _ _ _ => pg_name (i := 1) sc_exchanged.nd rfl (by first | exact Or.inl rfl | exact Or.inr rfl)) (fun _ _ _ _ _ => dts_nil) (fun _ _ _ _ _ => de_tuple rfl T.m_tuple (de_lc (fz := true) (own := [("row", 2)]) rfl sc_exchanged.nd (di_any (de_var (pv 0))) (blkOk_by (own := [("row", 2)]) (by rfl)) (ct_name (by decide)) (fun _ _ _ _ _ => pg_name (i := 2) sc_exchanged.nd rfl (by first | exact Or.inl rfl | exact Or.inr rfl)) (fun _ _ _ _ _ => dts_nil) (fun _ _ _ _ _ => de_sub_ (de_var (pv 2)) (de_var (pv 1))))))))
theorem sc_is_word : FnScope ["text"] ["text"] (defScope s_is_word) := ⟨rfl, rfl, rfl, by decide +kernel, rfl, by decide +kernel, by decide +kernel⟩
theorem has_is_word (T : Txt K C mg)  {f : Addr} {fd : FuncData} (F : Fun K "is_word" "is_word" s_is_word f fd) (m : mg "is_word" = some (.ref f)) (b : Binds K fd ["text"] []) (kb : (fun _ => True) fd) :
    Has P w K mg base "is_word" 1 ["text"] S_is_word (fun _ => True) := by
  refine ⟨f, fd, m, F.kp, b, kb, fun_deep (T := t_is_word) (k := 0) F sc_is_word ?_ (fun cdv A outer s H E hr => ?_) rd_is_word⟩
  · intro ds μ Q E h; first | (obtain ⟨rfl, _⟩ := h; rfl; done) | (obtain ⟨_, rfl, _⟩ := h; rfl; done) | (obtain ⟨_, _, rfl, _⟩ := h; rfl; done) | (obtain ⟨_, _, _, rfl, _⟩ := h; rfl; done) | (obtain ⟨_, _, _, _, rfl, _⟩ := h; rfl; done) | (obtain ⟨_, _, _, _, _, rfl, _⟩ := h; rfl; done) | (obtain ⟨_, _, _, _, _, _, rfl, _⟩ := h; rfl; done) | (obtain ⟨_, _, _, _, _, _, _, rfl, _⟩ := h; rfl; done) | (obtain ⟨_, _, _, _, _, _, _, _, rfl, _⟩ := h; rfl; done) | (obtain ⟨_, _, _, _, _, _, _, _, _, rfl, _⟩ := h; rfl; done) | (rcases h with ⟨_, rfl | rfl, _⟩ <;> rfl) | (rcases h with ⟨_, _, rfl | rfl, _⟩ <;> rfl) | (rcases h with h | h <;> first | (obtain ⟨rfl, _⟩ := h; rfl; done) | (obtain ⟨_, rfl, _⟩ := h; rfl; done) | (obtain ⟨_, _, rfl, _⟩ := h; rfl; done) | (obtain ⟨_, _, _, rfl, _⟩ := h; rfl; done) | (obtain ⟨_, _, _, _, rfl, _⟩ := h; rfl; done) | (obtain ⟨_, _, _, _, _, rfl, _⟩ := h; rfl; done) | (obtain ⟨_, _, _, _, _, _, rfl, _⟩ := h; rfl; done) | (obtain ⟨_, _, _, _, _, _, _, rfl, _⟩ := h; rfl; done) | (obtain ⟨_, _, _, _, _, _, _, _, rfl, _⟩ := h; rfl; done) | (obtain ⟨_, _, _, _, _, _, _, _, _, rfl, _⟩ := h; rfl; done) | (rcases h with ⟨_, rfl | rfl, _⟩ <;> rfl))
  · have tk := takes_of (X := cxOf (L2.CX P w) P w K mg base ["text"] "is_word" (defScope s_is_word) f cdv A outer s H E) rfl rfl rfl rfl
    have hp := passes_of (X := cxOf (L2.CX P w) P w K mg base ["text"] "is_word" (defScope s_is_word) f cdv A outer s H E) rfl
    exact dss_one (ds_ret (de_and (de_ne hr.units (de_var (pv 0)) (de_str pe_str)) (de_and (de_notin (de_str pe_str) (de_var (pv 0))) (de_one (de_notin (de_str pe_str) (de_var (pv 0)))))))
theorem sc_T_initL : FnScope ["self", "lines", "found", "row", "name"] ["self", "lines"] (defScope s_T_initL) := ⟨rfl, rfl, rfl, by decide +kernel, rfl, by decide +kernel, by decide +kernel⟩
theorem has_T_initL (T : Txt K C mg) (h_check_linesL : Has P w K mg base "check_lines" 4 ["rows"] S_check_linesL (fun _ => True)) (h_check_number : Has P w K mg base "check_number" 3 ["count"] S_check_numberX (fun _ => True)) (h_exchanged : Has P w K mg base "exchanged" 1 ["rows"] S_exchanged (fun _ => True)) {f : Addr} {fd : FuncData} (F : Fun K "__init__" "Table.__init__" s_T_initL f fd) (m : mg "Table" = some (.ref C.T)) (mk : Mk K C.T f) (b : Binds K fd ["self", "lines"] []) :
    HasI P w K mg base C.T "Table" 5 ["self", "lines"] (S_T_initL C) := by
  refine ⟨f, fd, m, mk, b, fun_deep (T := (t_T_initL C)) (k := 4) F sc_T_initL ?_ (fun cdv A outer s H E hr => ?_) (rd_T_initL (C := C))⟩
  · intro ds μ Q E h; first | (obtain ⟨rfl, _⟩ := h; rfl; done) | (obtain ⟨_, rfl, _⟩ := h; rfl; done) | (obtain ⟨_, _, rfl, _⟩ := h; rfl; done) | (obtain ⟨_, _, _, rfl, _⟩ := h; rfl; done) | (obtain ⟨_, _, _, _, rfl, _⟩ := h; rfl; done) | (obtain ⟨_, _, _, _, _, rfl, _⟩ := h; rfl; done) | (obtain ⟨_, _, _, _, _, _, rfl, _⟩ := h; rfl; done) | (obtain ⟨_, _, _, _, _, _, _, rfl, _⟩ := h; rfl; done) | (obtain ⟨_, _, _, _, _, _, _, _, rfl, _⟩ := h; rfl; done) | (obtain ⟨_, _, _, _, _, _, _, _, _, rfl, _⟩ := h; rfl; done) | (rcases h with ⟨_, rfl | rfl, _⟩ <;> rfl) | (rcases h with ⟨_, _, rfl | rfl, _⟩ <;> rfl) | (rcases h with h | h <;> first | (obtain ⟨rfl, _⟩ := h; rfl; done) | (obtain ⟨_, rfl, _⟩ := h; rfl; done) | (obtain ⟨_, _, rfl, _⟩ := h; rfl; done) | (obtain ⟨_, _, _, rfl, _⟩ := h; rfl; done) | (obtain ⟨_, _, _, _, rfl, _⟩ := h; rfl; done) | (obtain ⟨_, _, _, _, _, rfl, _⟩ := h; rfl; done) | (obtain ⟨_, _, _, _, _, _, rfl, _⟩ := h; rfl; done) | (obtain ⟨_, _, _, _, _, _, _, rfl, _⟩ := h; rfl; done) | (obtain ⟨_, _, _, _, _, _, _, _, rfl, _⟩ := h; rfl; done) | (obtain ⟨_, _, _, _, _, _, _, _, _, rfl, _⟩ := h; rfl; done) | (rcases h with ⟨_, rfl | rfl, _⟩ <;> rfl))
  · have tk := takes_of (X := cxOf (L2.CX P w) P w K mg base ["self", "lines", "found", "row", "name"] "Table.__init__" (defScope s_T_initL) f cdv A outer s H E) rfl rfl rfl rfl
    have hp := passes_of (X := cxOf (L2.CX P w) P w K mg base ["self", "lines", "found", "row", "name"] "Table.__init__" (defScope s_T_initL) f cdv A outer s H E) rfl
    exact dss_cons (ds_drop (de_fnH h_check_linesL (hr.mono (by decide)) rfl tk (da_cons (de_var (pv 1)) (da_nil))))
      (dss_cons (ds_fld T.c_Table T.n_Table_rows (de_var (pv 0)) (de_tuple rfl T.m_tuple (de_lc (fz := true) (own := [("row", 3)]) rfl sc_T_initL.nd (di_any (de_var (pv 1))) (blkOk_by (N := ["self", "lines", "found", "row", "name"]) (sc := defScope s_T_initL) (own := [("row", 3)]) (by decide +kernel)) (ct_name (by decide)) (fun _ _ _ _ _ => pg_name (i := 3) sc_T_initL.nd rfl (by first | exact Or.inl rfl | exact Or.inr rfl)) (fun _ _ _ _ _ => dts_nil) (fun _ _ _ _ _ => de_tuple rfl T.m_tuple (de_var (pv 3))))))
      (dss_cons (ds_fld T.c_Table T.n_Table_columns (de_var (pv 0)) (de_fnH h_exchanged (hr.mono (by decide)) rfl tk (da_cons (de_fld T.c_Table T.n_Table_rows (de_var (pv 0))) (da_nil))))
      (dss_cons (ds_set (i := 2) (de_sortSC (own := [("row", 3), ("name", 4)]) (vs1 := [4]) true hr.units rfl T.m_sorted rfl sc_T_initL.nd (di_any (de_fld T.c_Table T.n_Table_rows (de_var (pv 0)))) (blkOk_by (N := ["self", "lines", "found", "row", "name"]) (sc := defScope s_T_initL) (own := [("row", 3), ("name", 4)]) (by decide +kernel)) (by decide) (ct_name (by decide)) (ct_name (by decide)) (fun _ _ _ _ _ => pg_name (i := 3) sc_T_initL.nd rfl (by first | exact Or.inl rfl | exact Or.inr rfl)) (fun _ _ _ _ _ => di_any (de_var (pv 3))) (fun _ _ _ _ _ => pg_name (i := 4) sc_T_initL.nd rfl (by first | exact Or.inl rfl | exact Or.inr rfl)) (fun _ _ _ _ _ => de_var (pv 4))) sc_T_initL.nd)
      (dss_cons (ds_drop (de_fnH h_check_number (hr.mono (by decide)) rfl tk (da_cons (de_len rfl T.m_len (de_var (pv 2))) (da_nil))))
      (dss_one (ds_fld T.c_Table T.n_Table_names (de_var (pv 0)) (de_tuple rfl T.m_tuple (de_var (pv 2)))))))))
theorem sc_T_read : FnScope ["cls", "text", "rows", "row", "word"] ["cls", "text"] (defScope s_T_read) := ⟨rfl, rfl, rfl, by decide +kernel, rfl, by decide +kernel, by decide +kernel⟩
def kb_T_read (K : PySem.W.Frag) (fd : FuncData) : Prop := KBd K fd ["cls", "text"] 1 ["text"] (up1 [0])
theorem kb_T_read_text : ∀ fd, kb_T_read K fd → KBd K fd ["cls", "text"] 1 ["text"] (up1 [0]) := fun _ h => h
theorem has_T_read (T : Txt K C mg) (h_BadText__init_ : HasE P w K mg base .BadText "text") (h_T_initL : HasI P w K mg base C.T "Table" 5 ["self", "lines"] (S_T_initL C)) (h_is_word : Has P w K mg base "is_word" 1 ["text"] S_is_word (fun _ => True)) {f : Addr} {fd : FuncData} (F : Fun K "read" "Table.read" s_T_read f fd) {pr : Addr} {mc : Value} (m0 : ClX.CRead K C.T mc) (m : ClX.CMet K C.T mc "read" pr f) (b : Binds K fd ["cls", "text"] []) (kb : (kb_T_read K) fd) :
    HasCk P w K mg base C.T "read" 7 ["cls", "text"] (S_T_read C) (kb_T_read K) := by
  refine ⟨pr, mc, f, fd, m0, m, b, kb, fun_deep (T := (t_T_read C)) (k := 6) F sc_T_read ?_ (fun cdv A outer s H E hr => ?_) (rd_T_read (C := C))⟩
  · intro ds μ Q E h; first | (obtain ⟨rfl, _⟩ := h; rfl; done) | (obtain ⟨_, rfl, _⟩ := h; rfl; done) | (obtain ⟨_, _, rfl, _⟩ := h; rfl; done) | (obtain ⟨_, _, _, rfl, _⟩ := h; rfl; done) | (obtain ⟨_, _, _, _, rfl, _⟩ := h; rfl; done) | (obtain ⟨_, _, _, _, _, rfl, _⟩ := h; rfl; done) | (obtain ⟨_, _, _, _, _, _, rfl, _⟩ := h; rfl; done) | (obtain ⟨_, _, _, _, _, _, _, rfl, _⟩ := h; rfl; done) | (obtain ⟨_, _, _, _, _, _, _, _, rfl, _⟩ := h; rfl; done) | (obtain ⟨_, _, _, _, _, _, _, _, _, rfl, _⟩ := h; rfl; done) | (rcases h with ⟨_, rfl | rfl, _⟩ <;> rfl) | (rcases h with ⟨_, _, rfl | rfl, _⟩ <;> rfl) | (rcases h with h | h <;> first | (obtain ⟨rfl, _⟩ := h; rfl; done) | (obtain ⟨_, rfl, _⟩ := h; rfl; done) | (obtain ⟨_, _, rfl, _⟩ := h; rfl; done) | (obtain ⟨_, _, _, rfl, _⟩ := h; rfl; done) | (obtain ⟨_, _, _, _, rfl, _⟩ := h; rfl; done) | (obtain ⟨_, _, _, _, _, rfl, _⟩ := h; rfl; done) | (obtain ⟨_, _, _, _, _, _, rfl, _⟩ := h; rfl; done) | (obtain ⟨_, _, _, _, _, _, _, rfl, _⟩ := h; rfl; done) | (obtain ⟨_, _, _, _, _, _, _, _, rfl, _⟩ := h; rfl; done) | (obtain ⟨_, _, _, _, _, _, _, _, _, rfl, _⟩ := h; rfl; done) | (rcases h with ⟨_, rfl | rfl, _⟩ <;> rfl))
  · have tk := takes_of (X := cxOf (L2.CX P w) P w K mg base ["cls", "text", "rows", "row", "word"] "Table.read" (defScope s_T_read) f cdv A outer s H E) rfl rfl rfl rfl
    have hp := passes_of (X := cxOf (L2.CX P w) P w K mg base ["cls", "text", "rows", "row", "word"] "Table.read" (defScope s_T_read) f cdv A outer s H E) rfl
    exact dss_cons (ds_setLc (i := 2) (fz := true) (own := [("row", 3)]) rfl sc_T_read.nd rfl rfl (sw_true rfl rfl rfl (by decide +kernel)) (di_any (de_split true (de_var (pv 1)) (de_str pe_str))) (blkOk_by (N := ["cls", "text", "rows", "row", "word"]) (sc := defScope s_T_read) (own := [("row", 3)]) (by decide +kernel)) (ct_name (by decide)) (fun _ _ _ _ _ => pg_name (i := 3) sc_T_read.nd rfl (by first | exact Or.inl rfl | exact Or.inr rfl)) (fun _ _ _ _ _ => dts_nil) (fun _ _ _ _ _ => de_split true (de_var (pv 3)) (de_str pe_str)))
      (dss_cons (ds_for hp rfl (di_any (de_var (pv 2))) (dg_name (pg_name (i := 3) sc_T_read.nd rfl (by first | exact Or.inl rfl | exact Or.inr rfl))) (dss_one (ds_for hp rfl (di_any (de_var (pv 3))) (dg_name (pg_name (i := 4) sc_T_read.nd rfl (by first | exact Or.inl rfl | exact Or.inr rfl))) (dss_one (ds_if (dt_not (dt_val (de_fnH h_is_word (hr.mono (by decide)) rfl tk (da_cons (de_var (pv 4)) (da_nil))))) (dss_one (ds_raise h_BadText__init_ (hr.mono (by decide)) rfl tk (de_var (pv 1)))) (dss_nil))))))
      (dss_one (ds_ret (de_makeVH h_T_initL (hr.mono (by decide)) (pv 0) tk (da_cons (de_var (pv 2)) (da_nil))))))
theorem sc_T_lines : FnScope ["self"] ["self"] (defScope s_T_lines) := ⟨rfl, rfl, rfl, by decide +kernel, rfl, by decide +kernel, by decide +kernel⟩
theorem has_T_lines (T : Txt K C mg)  {f : Addr} {fd : FuncData} (F : Fun K "lines" "Table.lines" s_T_lines f fd) {pr : Addr} (m : PropOf K C.T "lines" pr f) (b : Binds K fd ["self"] []) :
    HasP P w K mg base C.T "lines" 1 ["self"] (S_T_lines C) := by
  refine ⟨pr, f, fd, m, b, fun_deep (T := (t_T_lines C)) (k := 0) F sc_T_lines ?_ (fun cdv A outer s H E hr => ?_) (rd_T_lines (C := C))⟩
  · intro ds μ Q E h; first | (obtain ⟨rfl, _⟩ := h; rfl; done) | (obtain ⟨_, rfl, _⟩ := h; rfl; done) | (obtain ⟨_, _, rfl, _⟩ := h; rfl; done) | (obtain ⟨_, _, _, rfl, _⟩ := h; rfl; done) | (obtain ⟨_, _, _, _, rfl, _⟩ := h; rfl; done) | (obtain ⟨_, _, _, _, _, rfl, _⟩ := h; rfl; done) | (obtain ⟨_, _, _, _, _, _, rfl, _⟩ := h; rfl; done) | (obtain ⟨_, _, _, _, _, _, _, rfl, _⟩ := h; rfl; done) | (obtain ⟨_, _, _, _, _, _, _, _, rfl, _⟩ := h; rfl; done) | (obtain ⟨_, _, _, _, _, _, _, _, _, rfl, _⟩ := h; rfl; done) | (rcases h with ⟨_, rfl | rfl, _⟩ <;> rfl) | (rcases h with ⟨_, _, rfl | rfl, _⟩ <;> rfl) | (rcases h with h | h <;> first | (obtain ⟨rfl, _⟩ := h; rfl; done) | (obtain ⟨_, rfl, _⟩ := h; rfl; done) | (obtain ⟨_, _, rfl, _⟩ := h; rfl; done) | (obtain ⟨_, _, _, rfl, _⟩ := h; rfl; done) | (obtain ⟨_, _, _, _, rfl, _⟩ := h; rfl; done) | (obtain ⟨_, _, _, _, _, rfl, _⟩ := h; rfl; done) | (obtain ⟨_, _, _, _, _, _, rfl, _⟩ := h; rfl; done) | (obtain ⟨_, _, _, _, _, _, _, rfl, _⟩ := h; rfl; done) | (obtain ⟨_, _, _, _, _, _, _, _, rfl, _⟩ := h; rfl; done) | (obtain ⟨_, _, _, _, _, _, _, _, _, rfl, _⟩ := h; rfl; done) | (rcases h with ⟨_, rfl | rfl, _⟩ <;> rfl))
  · have tk := takes_of (X := cxOf (L2.CX P w) P w K mg base ["self"] "Table.lines" (defScope s_T_lines) f cdv A outer s H E) rfl rfl rfl rfl
    have hp := passes_of (X := cxOf (L2.CX P w) P w K mg base ["self"] "Table.lines" (defScope s_T_lines) f cdv A outer s H E) rfl
    exact dss_one (ds_ret (de_fld T.c_Table T.n_Table_rows (de_var (pv 0))))
theorem sc_T_eq : FnScope ["self", "other"] ["self", "other"] (defScope s_T_eq) := ⟨rfl, rfl, rfl, by decide +kernel, rfl, by decide +kernel, by decide +kernel⟩
theorem has_T_eq (T : Txt K C mg)  {f : Addr} {fd : FuncData} (F : Fun K "__eq__" "Table.__eq__" s_T_eq f fd) (m : PySem.W.findIn K (.ref C.T) "__eq__" = some (some (.ref f))) (m2 : PySem.W.isFn K (.ref f) = true) (b : Binds K fd ["self", "other"] []) :
    HasQ P w K mg base C.T 1 ["self", "other"] (S_T_eqX C) := by
  refine ⟨f, fd, m, m2, b, fun_deep (T := (t_T_eq C)) (k := 0) F sc_T_eq ?_ (fun cdv A outer s H E hr => ?_) (rd_T_eqX (C := C))⟩
  · intro ds μ Q E h; first | (obtain ⟨rfl, _⟩ := h; rfl; done) | (obtain ⟨_, rfl, _⟩ := h; rfl; done) | (obtain ⟨_, _, rfl, _⟩ := h; rfl; done) | (obtain ⟨_, _, _, rfl, _⟩ := h; rfl; done) | (obtain ⟨_, _, _, _, rfl, _⟩ := h; rfl; done) | (obtain ⟨_, _, _, _, _, rfl, _⟩ := h; rfl; done) | (obtain ⟨_, _, _, _, _, _, rfl, _⟩ := h; rfl; done) | (obtain ⟨_, _, _, _, _, _, _, rfl, _⟩ := h; rfl; done) | (obtain ⟨_, _, _, _, _, _, _, _, rfl, _⟩ := h; rfl; done) | (obtain ⟨_, _, _, _, _, _, _, _, _, rfl, _⟩ := h; rfl; done) | (rcases h with ⟨_, rfl | rfl, _⟩ <;> rfl) | (rcases h with ⟨_, _, rfl | rfl, _⟩ <;> rfl) | (rcases h with h | h <;> first | (obtain ⟨rfl, _⟩ := h; rfl; done) | (obtain ⟨_, rfl, _⟩ := h; rfl; done) | (obtain ⟨_, _, rfl, _⟩ := h; rfl; done) | (obtain ⟨_, _, _, rfl, _⟩ := h; rfl; done) | (obtain ⟨_, _, _, _, rfl, _⟩ := h; rfl; done) | (obtain ⟨_, _, _, _, _, rfl, _⟩ := h; rfl; done) | (obtain ⟨_, _, _, _, _, _, rfl, _⟩ := h; rfl; done) | (obtain ⟨_, _, _, _, _, _, _, rfl, _⟩ := h; rfl; done) | (obtain ⟨_, _, _, _, _, _, _, _, rfl, _⟩ := h; rfl; done) | (obtain ⟨_, _, _, _, _, _, _, _, _, rfl, _⟩ := h; rfl; done) | (rcases h with ⟨_, rfl | rfl, _⟩ <;> rfl))
  · have tk := takes_of (X := cxOf (L2.CX P w) P w K mg base ["self", "other"] "Table.__eq__" (defScope s_T_eq) f cdv A outer s H E) rfl rfl rfl rfl
    have hp := passes_of (X := cxOf (L2.CX P w) P w K mg base ["self", "other"] "Table.__eq__" (defScope s_T_eq) f cdv A outer s H E) rfl
    exact dss_one (ds_ret (de_and (de_isiC T.i_Table rfl T.m_isinstance (de_var (pv 1)) rfl T.gc_Table) (de_one (de_eq hr.units (de_fld T.c_Table T.n_Table_rows (de_var (pv 0))) (de_fld T.c_Table T.n_Table_rows (de_var (pv 1)))))))
theorem sc_T_str : FnScope ["self", "row"] ["self"] (defScope s_T_str) := ⟨rfl, rfl, rfl, by decide +kernel, rfl, by decide +kernel, by decide +kernel⟩
theorem has_T_str (T : Txt K C mg)  {f : Addr} {fd : FuncData} (F : Fun K "__str__" "Table.__str__" s_T_str f fd) (m : Meth K C.T "__str__" f) (b : Binds K fd ["self"] []) :
    HasM P w K mg base C.T "__str__" 1 ["self"] (S_T_str C) := by
  refine ⟨f, fd, m, b, fun_deep (T := (t_T_str C)) (k := 0) F sc_T_str ?_ (fun cdv A outer s H E hr => ?_) (rd_T_str (C := C))⟩
  · intro ds μ Q E h; first | (obtain ⟨rfl, _⟩ := h; rfl; done) | (obtain ⟨_, rfl, _⟩ := h; rfl; done) | (obtain ⟨_, _, rfl, _⟩ := h; rfl; done) | (obtain ⟨_, _, _, rfl, _⟩ := h; rfl; done) | (obtain ⟨_, _, _, _, rfl, _⟩ := h; rfl; done) | (obtain ⟨_, _, _, _, _, rfl, _⟩ := h; rfl; done) | (obtain ⟨_, _, _, _, _, _, rfl, _⟩ := h; rfl; done) | (obtain ⟨_, _, _, _, _, _, _, rfl, _⟩ := h; rfl; done) | (obtain ⟨_, _, _, _, _, _, _, _, rfl, _⟩ := h; rfl; done) | (obtain ⟨_, _, _, _, _, _, _, _, _, rfl, _⟩ := h; rfl; done) | (rcases h with ⟨_, rfl | rfl, _⟩ <;> rfl) | (rcases h with ⟨_, _, rfl | rfl, _⟩ <;> rfl) | (rcases h with h | h <;> first | (obtain ⟨rfl, _⟩ := h; rfl; done) | (obtain ⟨_, rfl, _⟩ := h; rfl; done) | (obtain ⟨_, _, rfl, _⟩ := h; rfl; done) | (obtain ⟨_, _, _, rfl, _⟩ := h; rfl; done) | (obtain ⟨_, _, _, _, rfl, _⟩ := h; rfl; done) | (obtain ⟨_, _, _, _, _, rfl, _⟩ := h; rfl; done) | (obtain ⟨_, _, _, _, _, _, rfl, _⟩ := h; rfl; done) | (obtain ⟨_, _, _, _, _, _, _, rfl, _⟩ := h; rfl; done) | (obtain ⟨_, _, _, _, _, _, _, _, rfl, _⟩ := h; rfl; done) | (obtain ⟨_, _, _, _, _, _, _, _, _, rfl, _⟩ := h; rfl; done) | (rcases h with ⟨_, rfl | rfl, _⟩ <;> rfl))
  · have tk := takes_of (X := cxOf (L2.CX P w) P w K mg base ["self", "row"] "Table.__str__" (defScope s_T_str) f cdv A outer s H E) rfl rfl rfl rfl
    have hp := passes_of (X := cxOf (L2.CX P w) P w K mg base ["self", "row"] "Table.__str__" (defScope s_T_str) f cdv A outer s H E) rfl
    exact dss_one (ds_ret (de_join (de_str pe_str) (de_lc (fz := true) (own := [("row", 1)]) rfl sc_T_str.nd (di_any (de_fld T.c_Table T.n_Table_rows (de_var (pv 0)))) (blkOk_by (N := ["self", "row"]) (sc := defScope s_T_str) (own := [("row", 1)]) (by decide +kernel)) (ct_name (by decide)) (fun _ _ _ _ _ => pg_name (i := 1) sc_T_str.nd rfl (by first | exact Or.inl rfl | exact Or.inr rfl)) (fun _ _ _ _ _ => dts_nil) (fun _ _ _ _ _ => de_join (de_str pe_str) (de_var (pv 1))))))
theorem sc_start : FnScope ["_law_script", "_law_cell"] ["_law_script"] (defScope s_start) := ⟨rfl, rfl, rfl, by decide +kernel, rfl, by decide +kernel, by decide +kernel⟩
theorem has_start (T : Txt K C mg)  {f : Addr} {fd : FuncData} (F : Fun K "_law_start" "_law_start" s_start f fd) (m : mg "_law_start" = some (.ref f)) (b : Binds K fd ["_law_script"] []) (kb : (fun _ => True) fd) :
    Has P w K mg base "_law_start" 1 ["_law_script"] S_start (fun _ => True) := by
  refine ⟨f, fd, m, F.kp, b, kb, FnOk.imp (fun_deep (T := t_start) (k := 0) F sc_start ?_ (fun cdv A outer s H E hr => ?_) rd_startE) start_orc⟩
  · intro ds μ Q E h; first | (obtain ⟨_, rfl, _⟩ := h; rfl; done) | (obtain ⟨rfl, _⟩ := h; rfl; done) | (obtain ⟨_, rfl, _⟩ := h; rfl; done) | (obtain ⟨_, _, rfl, _⟩ := h; rfl; done) | (obtain ⟨_, _, _, rfl, _⟩ := h; rfl; done) | (obtain ⟨_, _, _, _, rfl, _⟩ := h; rfl; done) | (obtain ⟨_, _, _, _, _, rfl, _⟩ := h; rfl; done) | (obtain ⟨_, _, _, _, _, _, rfl, _⟩ := h; rfl; done) | (obtain ⟨_, _, _, _, _, _, _, rfl, _⟩ := h; rfl; done) | (obtain ⟨_, _, _, _, _, _, _, _, rfl, _⟩ := h; rfl; done) | (obtain ⟨_, _, _, _, _, _, _, _, _, rfl, _⟩ := h; rfl; done) | (rcases h with ⟨_, rfl | rfl, _⟩ <;> rfl) | (rcases h with ⟨_, _, rfl | rfl, _⟩ <;> rfl) | (rcases h with h | h <;> first | (obtain ⟨rfl, _⟩ := h; rfl; done) | (obtain ⟨_, rfl, _⟩ := h; rfl; done) | (obtain ⟨_, _, rfl, _⟩ := h; rfl; done) | (obtain ⟨_, _, _, rfl, _⟩ := h; rfl; done) | (obtain ⟨_, _, _, _, rfl, _⟩ := h; rfl; done) | (obtain ⟨_, _, _, _, _, rfl, _⟩ := h; rfl; done) | (obtain ⟨_, _, _, _, _, _, rfl, _⟩ := h; rfl; done) | (obtain ⟨_, _, _, _, _, _, _, rfl, _⟩ := h; rfl; done) | (obtain ⟨_, _, _, _, _, _, _, _, rfl, _⟩ := h; rfl; done) | (obtain ⟨_, _, _, _, _, _, _, _, _, rfl, _⟩ := h; rfl; done) | (rcases h with ⟨_, rfl | rfl, _⟩ <;> rfl))
  · have tk := takes_of (X := cxOf (L2.CX P w) P w K mg base ["_law_script", "_law_cell"] "_law_start" (defScope s_start) f cdv A outer s H E) rfl rfl rfl rfl
    have hp := passes_of (X := cxOf (L2.CX P w) P w K mg base ["_law_script", "_law_cell"] "_law_start" (defScope s_start) f cdv A outer s H E) rfl
    exact dss_one (ds_ret (de_lstM (da_cons (de_lc (fz := false) (own := [("_law_cell", 1)]) rfl sc_start.nd (di_any (de_var (pv 0))) (blkOk_by (N := ["_law_script", "_law_cell"]) (sc := defScope s_start) (own := [("_law_cell", 1)]) (by decide +kernel)) (ct_name (by decide)) (fun _ _ _ _ _ => pg_name (i := 1) sc_start.nd rfl (by first | exact Or.inl rfl | exact Or.inr rfl)) (fun _ _ _ _ _ => dts_one (dt_ge (de_abs rfl T.m_abs (de_var (pv 1))) (de_pow (de_int pe_int) (de_int pe_int)))) (fun _ _ _ _ _ => de_abs rfl T.m_abs (de_var (pv 1)))) (da_cons (de_addM (de_list true rfl T.m_list (de_var (pv 0))) (de_lst (da_cons (de_int pe_int) (da_nil)))) (da_cons (de_int pe_int) (da_nil))))))
theorem sc_draw : FnScope ["_law_state", "_law_size", "_law_digit", "_law_cell", "_law_one"] ["_law_state", "_law_size"] (defScope s_draw) := ⟨rfl, rfl, rfl, by decide +kernel, rfl, by decide +kernel, by decide +kernel⟩
theorem has_draw (T : Txt K C mg)  {f : Addr} {fd : FuncData} (F : Fun K "_law_draw" "_law_draw" s_draw f fd) (m : mg "_law_draw" = some (.ref f)) (b : Binds K fd ["_law_state", "_law_size"] []) (kb : (fun _ => True) fd) :
    Has P w K mg base "_law_draw" 1 ["_law_state", "_law_size"] S_draw (fun _ => True) := by
  refine ⟨f, fd, m, F.kp, b, kb, FnOk.imp (fun_deep (T := t_draw) (k := 0) F sc_draw ?_ (fun cdv A outer s H E hr => ?_) rd_drawE) draw_orc⟩
  · intro ds μ Q E h; first | (obtain ⟨_, _, _, _, _, _, _, rfl, _⟩ := h; rfl; done) | (obtain ⟨rfl, _⟩ := h; rfl; done) | (obtain ⟨_, rfl, _⟩ := h; rfl; done) | (obtain ⟨_, _, rfl, _⟩ := h; rfl; done) | (obtain ⟨_, _, _, rfl, _⟩ := h; rfl; done) | (obtain ⟨_, _, _, _, rfl, _⟩ := h; rfl; done) | (obtain ⟨_, _, _, _, _, rfl, _⟩ := h; rfl; done) | (obtain ⟨_, _, _, _, _, _, rfl, _⟩ := h; rfl; done) | (obtain ⟨_, _, _, _, _, _, _, rfl, _⟩ := h; rfl; done) | (obtain ⟨_, _, _, _, _, _, _, _, rfl, _⟩ := h; rfl; done) | (obtain ⟨_, _, _, _, _, _, _, _, _, rfl, _⟩ := h; rfl; done) | (rcases h with ⟨_, rfl | rfl, _⟩ <;> rfl) | (rcases h with ⟨_, _, rfl | rfl, _⟩ <;> rfl) | (rcases h with h | h <;> first | (obtain ⟨rfl, _⟩ := h; rfl; done) | (obtain ⟨_, rfl, _⟩ := h; rfl; done) | (obtain ⟨_, _, rfl, _⟩ := h; rfl; done) | (obtain ⟨_, _, _, rfl, _⟩ := h; rfl; done) | (obtain ⟨_, _, _, _, rfl, _⟩ := h; rfl; done) | (obtain ⟨_, _, _, _, _, rfl, _⟩ := h; rfl; done) | (obtain ⟨_, _, _, _, _, _, rfl, _⟩ := h; rfl; done) | (obtain ⟨_, _, _, _, _, _, _, rfl, _⟩ := h; rfl; done) | (obtain ⟨_, _, _, _, _, _, _, _, rfl, _⟩ := h; rfl; done) | (obtain ⟨_, _, _, _, _, _, _, _, _, rfl, _⟩ := h; rfl; done) | (rcases h with ⟨_, rfl | rfl, _⟩ <;> rfl))
  · have tk := takes_of (X := cxOf (L2.CX P w) P w K mg base ["_law_state", "_law_size", "_law_digit", "_law_cell", "_law_one"] "_law_draw" (defScope s_draw) f cdv A outer s H E) rfl rfl rfl rfl
    have hp := passes_of (X := cxOf (L2.CX P w) P w K mg base ["_law_state", "_law_size", "_law_digit", "_law_cell", "_law_one"] "_law_draw" (defScope s_draw) f cdv A outer s H E) rfl
    exact dss_cons (ds_augI (de_var (pv 0)) (de_int pe_int) (de_int pe_int) ip_add)
      (dss_cons (ds_while hp (PW.pt (pw_and' (dt_ne hr.units (de_sub_ (de_var (pv 0)) (de_int pe_int)) (de_lst (da_nil))) (pw_and1 (dt_eq hr.units (de_sub_ (de_sub_ (de_var (pv 0)) (de_int pe_int)) (de_int pe_int)) (de_int pe_int))))) (dss_one (ds_asg (de_slice false (de_sub_ (de_var (pv 0)) (de_int pe_int)) (do_some (de_int pe_int)) do_none) (dg_setI (de_var (pv 0)) (de_int pe_int) (pg_sub (de_var (pv 0)) (de_int pe_int) set_list)))))
      (dss_cons (ds_if (dt_ne hr.units (de_sub_ (de_var (pv 0)) (de_int pe_int)) (de_lst (da_nil))) (dss_cons (ds_set (i := 2) (de_mod (de_intC rfl T.m_int (de_sub_ (de_sub_ (de_var (pv 0)) (de_int pe_int)) (de_int pe_int))) (de_var (pv 1))) sc_draw.nd)
      (dss_cons (ds_asg (de_fdiv (de_sub_ (de_sub_ (de_var (pv 0)) (de_int pe_int)) (de_int pe_int)) (de_var (pv 1))) (dg_setI (de_sub_ (de_var (pv 0)) (de_int pe_int)) (de_int pe_int) (pg_sub (de_sub_ (de_var (pv 0)) (de_int pe_int)) (de_int pe_int) set_list)))
      (dss_one (ds_ret (de_var (pv 2)))))) (dss_nil))
      (dss_cons (ds_set (i := 3) (de_mod (de_intC rfl T.m_int (de_sub_ (de_sub_ (de_var (pv 0)) (de_int pe_int)) (de_mod (de_intC rfl T.m_int (de_sub_ (de_var (pv 0)) (de_int pe_int))) (de_len rfl T.m_len (de_sub_ (de_var (pv 0)) (de_int pe_int)))))) (de_int pe_int)) sc_draw.nd)
      (dss_cons (ds_set (i := 4) (de_mod (de_intC rfl T.m_int (de_pow (de_add (de_add (de_mul (de_var (pv 3)) (de_int pe_int)) (de_mul (de_sub_ (de_var (pv 0)) (de_int pe_int)) (de_int pe_int))) (de_int pe_int)) (de_int pe_int))) (de_int pe_int)) sc_draw.nd)
      (dss_one (ds_ret (de_mod (de_mod (de_intC rfl T.m_int (de_pow (de_add (de_add (de_mul (de_var (pv 4)) (de_int pe_int)) (de_mul (de_sub_ (de_var (pv 0)) (de_int pe_int)) (de_int pe_int))) (de_int pe_int)) (de_int pe_int))) (de_int pe_int)) (de_var (pv 1)))))))))
theorem sc_names : FnScope ["_law_state", "_law_count", "_law_signs_here", "_law_stem", "_law_letter", "_law_offset", "_law_stride", "_law_plan", "_law_step", "_law_whole", "_law_words", "_law_k", "_law_sign", "_law_back"] ["_law_state", "_law_count"] (defScope s_names) := ⟨rfl, rfl, rfl, by decide +kernel, rfl, by decide +kernel, by decide +kernel⟩
theorem has_names (T : Txt K C mg) (h_draw : Has P w K mg base "_law_draw" 1 ["_law_state", "_law_size"] S_draw (fun _ => True)) {f : Addr} {fd : FuncData} (F : Fun K "_law_names" "_law_names" s_names f fd) (m : mg "_law_names" = some (.ref f)) (b : Binds K fd ["_law_state", "_law_count"] []) (kb : (fun _ => True) fd) :
    Has P w K mg base "_law_names" 2 ["_law_state", "_law_count"] S_names (fun _ => True) := by
  refine ⟨f, fd, m, F.kp, b, kb, fun_deep (T := t_names) (k := 1) F sc_names ?_ (fun cdv A outer s H E hr => ?_) rd_names⟩
  · intro ds μ Q E h; first | (obtain ⟨_, _, _, rfl, _⟩ := h; rfl; done) | (obtain ⟨rfl, _⟩ := h; rfl; done) | (obtain ⟨_, rfl, _⟩ := h; rfl; done) | (obtain ⟨_, _, rfl, _⟩ := h; rfl; done) | (obtain ⟨_, _, _, rfl, _⟩ := h; rfl; done) | (obtain ⟨_, _, _, _, rfl, _⟩ := h; rfl; done) | (obtain ⟨_, _, _, _, _, rfl, _⟩ := h; rfl; done) | (obtain ⟨_, _, _, _, _, _, rfl, _⟩ := h; rfl; done) | (obtain ⟨_, _, _, _, _, _, _, rfl, _⟩ := h; rfl; done) | (obtain ⟨_, _, _, _, _, _, _, _, rfl, _⟩ := h; rfl; done) | (obtain ⟨_, _, _, _, _, _, _, _, _, rfl, _⟩ := h; rfl; done) | (rcases h with ⟨_, rfl | rfl, _⟩ <;> rfl) | (rcases h with ⟨_, _, rfl | rfl, _⟩ <;> rfl) | (rcases h with h | h <;> first | (obtain ⟨rfl, _⟩ := h; rfl; done) | (obtain ⟨_, rfl, _⟩ := h; rfl; done) | (obtain ⟨_, _, rfl, _⟩ := h; rfl; done) | (obtain ⟨_, _, _, rfl, _⟩ := h; rfl; done) | (obtain ⟨_, _, _, _, rfl, _⟩ := h; rfl; done) | (obtain ⟨_, _, _, _, _, rfl, _⟩ := h; rfl; done) | (obtain ⟨_, _, _, _, _, _, rfl, _⟩ := h; rfl; done) | (obtain ⟨_, _, _, _, _, _, _, rfl, _⟩ := h; rfl; done) | (obtain ⟨_, _, _, _, _, _, _, _, rfl, _⟩ := h; rfl; done) | (obtain ⟨_, _, _, _, _, _, _, _, _, rfl, _⟩ := h; rfl; done) | (rcases h with ⟨_, rfl | rfl, _⟩ <;> rfl))
  · have tk := takes_of (X := cxOf (L2.CX P w) P w K mg base ["_law_state", "_law_count", "_law_signs_here", "_law_stem", "_law_letter", "_law_offset", "_law_stride", "_law_plan", "_law_step", "_law_whole", "_law_words", "_law_k", "_law_sign", "_law_back"] "_law_names" (defScope s_names) f cdv A outer s H E) rfl rfl rfl rfl
    have hp := passes_of (X := cxOf (L2.CX P w) P w K mg base ["_law_state", "_law_count", "_law_signs_here", "_law_stem", "_law_letter", "_law_offset", "_law_stride", "_law_plan", "_law_step", "_law_whole", "_law_words", "_law_k", "_law_sign", "_law_back"] "_law_names" (defScope s_names) f cdv A outer s H E) rfl
    exact dss_cons (ds_set (i := 2) (de_str pe_str) sc_names.nd)
      (dss_cons (ds_set (i := 3) (de_join (de_str pe_str) (de_lc (fz := true) (own := [("_law_k", 11)]) rfl sc_names.nd (di_range1 rfl T.m_range (de_fnH h_draw (hr.mono (by decide)) rfl tk (da_cons (de_var (pv 0)) (da_cons (de_int pe_int) (da_nil))))) (blkOk_by (N := ["_law_state", "_law_count", "_law_signs_here", "_law_stem", "_law_letter", "_law_offset", "_law_stride", "_law_plan", "_law_step", "_law_whole", "_law_words", "_law_k", "_law_sign", "_law_back"]) (sc := defScope s_names) (own := [("_law_k", 11)]) (by decide +kernel)) (ct_name (by decide)) (fun _ _ _ _ _ => pg_name (i := 11) sc_names.nd rfl (by first | exact Or.inl rfl | exact Or.inr rfl)) (fun _ _ _ _ _ => dts_nil) (fun _ _ _ _ _ => de_sub_ (de_var (pv 2)) (de_fnH h_draw (hr.mono (by decide)) rfl takes0 (da_cons (de_var (pv 0)) (da_cons (de_int pe_int) (da_nil))))))) sc_names.nd)
      (dss_cons (ds_set (i := 4) (de_sub_ (de_var (pv 2)) (de_fnH h_draw (hr.mono (by decide)) rfl tk (da_cons (de_var (pv 0)) (da_cons (de_int pe_int) (da_nil))))) sc_names.nd)
      (dss_cons (ds_set (i := 5) (de_fnH h_draw (hr.mono (by decide)) rfl tk (da_cons (de_var (pv 0)) (da_cons (de_int pe_int) (da_nil)))) sc_names.nd)
      (dss_cons (ds_set (i := 6) (de_sub_ (de_lst (da_cons (de_int pe_int) (da_cons (de_int pe_int) (da_cons (de_int pe_int) (da_cons (de_int pe_int) (da_cons (de_int pe_int) (da_cons (de_int pe_int) (da_nil)))))))) (de_fnH h_draw (hr.mono (by decide)) rfl tk (da_cons (de_var (pv 0)) (da_cons (de_int pe_int) (da_nil))))) sc_names.nd)
      (dss_cons (ds_set (i := 7) (de_fnH h_draw (hr.mono (by decide)) rfl tk (da_cons (de_var (pv 0)) (da_cons (de_int pe_int) (da_nil)))) sc_names.nd)
      (dss_cons (ds_if (PW.pt (pw_and' (dt_eq hr.units (de_var (pv 7)) (de_int pe_int)) (pw_and1 (dt_lt (de_var (pv 1)) (de_int pe_int))))) (dss_one (ds_ret (de_slice true (de_lst (da_cons (de_str pe_str) (da_cons (de_str pe_str) (da_cons (de_str pe_str) (da_cons (de_str pe_str) (da_cons (de_str pe_str) (da_cons (de_str pe_str) (da_nil)))))))) do_none (do_some (de_var (pv 1)))))) (dss_nil))
      (dss_cons (ds_if (PW.pt (pw_or' (dt_eq hr.units (de_var (pv 7)) (de_int pe_int)) (pw_or1 (PW.pt (pw_and' (dt_eq hr.units (de_var (pv 7)) (de_int pe_int)) (pw_and1 (dt_gt (de_var (pv 1)) (de_int pe_int)))))))) (dss_cons (ds_set (i := 8) (de_add (de_int pe_int) (de_fnH h_draw (hr.mono (by decide)) rfl tk (da_cons (de_var (pv 0)) (da_cons (de_int pe_int) (da_nil))))) sc_names.nd)
      (dss_one (ds_ret (de_lc (fz := true) (own := [("_law_k", 11)]) rfl sc_names.nd (di_range1 rfl T.m_range (de_var (pv 1))) (blkOk_by (N := ["_law_state", "_law_count", "_law_signs_here", "_law_stem", "_law_letter", "_law_offset", "_law_stride", "_law_plan", "_law_step", "_law_whole", "_law_words", "_law_k", "_law_sign", "_law_back"]) (sc := defScope s_names) (own := [("_law_k", 11)]) (by decide +kernel)) (ct_name (by decide)) (fun _ _ _ _ _ => pg_name (i := 11) sc_names.nd rfl (by first | exact Or.inl rfl | exact Or.inr rfl)) (fun _ _ _ _ _ => dts_nil) (fun _ _ _ _ _ => de_add (de_var (pv 4)) (de_strC rfl T.m_str (de_mul (de_var (pv 8)) (de_add (de_var (pv 11)) (de_int pe_int))))))))) (dss_nil))
      (dss_cons (ds_if (dt_eq hr.units (de_var (pv 7)) (de_int pe_int)) (dss_cons (ds_set (i := 9) (de_add (de_var (pv 4)) (de_join (de_str pe_str) (de_lc (fz := true) (own := [("_law_k", 11)]) rfl sc_names.nd (di_range1 rfl T.m_range (de_int pe_int)) (blkOk_by (N := ["_law_state", "_law_count", "_law_signs_here", "_law_stem", "_law_letter", "_law_offset", "_law_stride", "_law_plan", "_law_step", "_law_whole", "_law_words", "_law_k", "_law_sign", "_law_back"]) (sc := defScope s_names) (own := [("_law_k", 11)]) (by decide +kernel)) (ct_name (by decide)) (fun _ _ _ _ _ => pg_name (i := 11) sc_names.nd rfl (by first | exact Or.inl rfl | exact Or.inr rfl)) (fun _ _ _ _ _ => dts_nil) (fun _ _ _ _ _ => de_sub_ (de_var (pv 2)) (de_fnH h_draw (hr.mono (by decide)) rfl takes0 (da_cons (de_var (pv 0)) (da_cons (de_int pe_int) (da_nil)))))))) sc_names.nd)
      (dss_one (ds_ret (de_lc (fz := true) (own := [("_law_k", 11)]) rfl sc_names.nd (di_range1 rfl T.m_range (de_var (pv 1))) (blkOk_by (N := ["_law_state", "_law_count", "_law_signs_here", "_law_stem", "_law_letter", "_law_offset", "_law_stride", "_law_plan", "_law_step", "_law_whole", "_law_words", "_law_k", "_law_sign", "_law_back"]) (sc := defScope s_names) (own := [("_law_k", 11)]) (by decide +kernel)) (ct_name (by decide)) (fun _ _ _ _ _ => pg_name (i := 11) sc_names.nd rfl (by first | exact Or.inl rfl | exact Or.inr rfl)) (fun _ _ _ _ _ => dts_nil) (fun _ _ _ _ _ => de_slice true (de_var (pv 9)) do_none (do_some (de_add (de_var (pv 11)) (de_int pe_int)))))))) (dss_nil))
      (dss_cons (ds_set (i := 10) (de_lstM (da_nil)) sc_names.nd)
      (dss_cons (ds_for hp rfl (di_range1 rfl T.m_range (de_var (pv 1))) (dg_name (pg_name (i := 11) sc_names.nd rfl (by first | exact Or.inl rfl | exact Or.inr rfl))) (dss_cons (ds_set (i := 12) (de_sub_ (de_var (pv 2)) (de_mod (de_intC rfl T.m_int (de_add (de_var (pv 5)) (de_mul (de_var (pv 6)) (de_var (pv 11))))) (de_int pe_int))) sc_names.nd)
      (dss_cons (ds_set (i := 13) (de_sub_ (de_lst (da_cons (de_var (pv 3)) (da_cons (de_str pe_str) (da_nil)))) (de_intC rfl T.m_int (de_and (de_gt (de_var (pv 7)) (de_int pe_int)) (de_one (de_eq hr.units (de_mod (de_var (pv 11)) (de_int pe_int)) (de_int pe_int)))))) sc_names.nd)
      (dss_one (ds_drop (de_append (de_var (pv 10)) (de_sub_ (de_lst (da_cons (de_add (de_add (de_var (pv 4)) (de_var (pv 13))) (de_var (pv 12))) (da_cons (de_add (de_var (pv 12)) (de_var (pv 13))) (da_nil)))) (de_mod (de_intC rfl T.m_int (de_var (pv 7))) (de_int pe_int)))))))))
      (dss_one (ds_ret (de_var (pv 10))))))))))))))
theorem sc_order : FnScope ["_law_state", "_law_items", "_law_left", "_law_told_here", "_law_k"] ["_law_state", "_law_items"] (defScope s_order) := ⟨rfl, rfl, rfl, by decide +kernel, rfl, by decide +kernel, by decide +kernel⟩
theorem has_order (T : Txt K C mg) (h_draw : Has P w K mg base "_law_draw" 1 ["_law_state", "_law_size"] S_draw (fun _ => True)) {f : Addr} {fd : FuncData} (F : Fun K "_law_order" "_law_order" s_order f fd) (m : mg "_law_order" = some (.ref f)) (b : Binds K fd ["_law_state", "_law_items"] []) (kb : (fun _ => True) fd) :
    Has P w K mg base "_law_order" 2 ["_law_state", "_law_items"] S_order (fun _ => True) := by
  refine ⟨f, fd, m, F.kp, b, kb, fun_deep (T := t_order) (k := 1) F sc_order ?_ (fun cdv A outer s H E hr => ?_) rd_order⟩
  · intro ds μ Q E h; first | (obtain ⟨rfl, _⟩ := h; rfl; done) | (obtain ⟨_, rfl, _⟩ := h; rfl; done) | (obtain ⟨_, _, rfl, _⟩ := h; rfl; done) | (obtain ⟨_, _, _, rfl, _⟩ := h; rfl; done) | (obtain ⟨_, _, _, _, rfl, _⟩ := h; rfl; done) | (obtain ⟨_, _, _, _, _, rfl, _⟩ := h; rfl; done) | (obtain ⟨_, _, _, _, _, _, rfl, _⟩ := h; rfl; done) | (obtain ⟨_, _, _, _, _, _, _, rfl, _⟩ := h; rfl; done) | (obtain ⟨_, _, _, _, _, _, _, _, rfl, _⟩ := h; rfl; done) | (obtain ⟨_, _, _, _, _, _, _, _, _, rfl, _⟩ := h; rfl; done) | (rcases h with ⟨_, rfl | rfl, _⟩ <;> rfl) | (rcases h with ⟨_, _, rfl | rfl, _⟩ <;> rfl) | (rcases h with h | h <;> first | (obtain ⟨rfl, _⟩ := h; rfl; done) | (obtain ⟨_, rfl, _⟩ := h; rfl; done) | (obtain ⟨_, _, rfl, _⟩ := h; rfl; done) | (obtain ⟨_, _, _, rfl, _⟩ := h; rfl; done) | (obtain ⟨_, _, _, _, rfl, _⟩ := h; rfl; done) | (obtain ⟨_, _, _, _, _, rfl, _⟩ := h; rfl; done) | (obtain ⟨_, _, _, _, _, _, rfl, _⟩ := h; rfl; done) | (obtain ⟨_, _, _, _, _, _, _, rfl, _⟩ := h; rfl; done) | (obtain ⟨_, _, _, _, _, _, _, _, rfl, _⟩ := h; rfl; done) | (obtain ⟨_, _, _, _, _, _, _, _, _, rfl, _⟩ := h; rfl; done) | (rcases h with ⟨_, rfl | rfl, _⟩ <;> rfl))
  · have tk := takes_of (X := cxOf (L2.CX P w) P w K mg base ["_law_state", "_law_items", "_law_left", "_law_told_here", "_law_k"] "_law_order" (defScope s_order) f cdv A outer s H E) rfl rfl rfl rfl
    have hp := passes_of (X := cxOf (L2.CX P w) P w K mg base ["_law_state", "_law_items", "_law_left", "_law_told_here", "_law_k"] "_law_order" (defScope s_order) f cdv A outer s H E) rfl
    exact dss_cons (ds_set (i := 2) (de_list false rfl T.m_list (de_var (pv 1))) sc_order.nd)
      (dss_cons (ds_set (i := 3) (de_lstM (da_nil)) sc_order.nd)
      (dss_cons (ds_for hp rfl (di_range1 rfl T.m_range (de_len rfl T.m_len (de_var (pv 2)))) (dg_name (pg_name (i := 4) sc_order.nd rfl (by first | exact Or.inl rfl | exact Or.inr rfl))) (dss_one (ds_drop (de_append (de_var (pv 3)) (de_popAt (de_var (pv 2)) (de_fnH h_draw (hr.mono (by decide)) rfl tk (da_cons (de_var (pv 0)) (da_cons (de_len rfl T.m_len (de_var (pv 2))) (da_nil)))))))))
      (dss_one (ds_ret (de_var (pv 3))))))
theorem sc_flipped : FnScope ["_law_rows_here", "_law_k", "_law_row"] ["_law_rows_here"] (defScope s_flipped) := ⟨rfl, rfl, rfl, by decide +kernel, rfl, by decide +kernel, by decide +kernel⟩
theorem has_flipped (T : Txt K C mg)  {f : Addr} {fd : FuncData} (F : Fun K "_law_flipped" "_law_flipped" s_flipped f fd) (m : mg "_law_flipped" = some (.ref f)) (b : Binds K fd ["_law_rows_here"] []) (kb : (fun _ => True) fd) :
    Has P w K mg base "_law_flipped" 1 ["_law_rows_here"] S_flipped (fun _ => True) := by
  refine ⟨f, fd, m, F.kp, b, kb, fun_deep (T := t_flipped) (k := 0) F sc_flipped ?_ (fun cdv A outer s H E hr => ?_) rd_flipped⟩
  · intro ds μ Q E h; first | (obtain ⟨_, _, _, _, rfl, _⟩ := h; rfl; done) | (obtain ⟨rfl, _⟩ := h; rfl; done) | (obtain ⟨_, rfl, _⟩ := h; rfl; done) | (obtain ⟨_, _, rfl, _⟩ := h; rfl; done) | (obtain ⟨_, _, _, rfl, _⟩ := h; rfl; done) | (obtain ⟨_, _, _, _, rfl, _⟩ := h; rfl; done) | (obtain ⟨_, _, _, _, _, rfl, _⟩ := h; rfl; done) | (obtain ⟨_, _, _, _, _, _, rfl, _⟩ := h; rfl; done) | (obtain ⟨_, _, _, _, _, _, _, rfl, _⟩ := h; rfl; done) | (obtain ⟨_, _, _, _, _, _, _, _, rfl, _⟩ := h; rfl; done) | (obtain ⟨_, _, _, _, _, _, _, _, _, rfl, _⟩ := h; rfl; done) | (rcases h with ⟨_, rfl | rfl, _⟩ <;> rfl) | (rcases h with ⟨_, _, rfl | rfl, _⟩ <;> rfl) | (rcases h with h | h <;> first | (obtain ⟨rfl, _⟩ := h; rfl; done) | (obtain ⟨_, rfl, _⟩ := h; rfl; done) | (obtain ⟨_, _, rfl, _⟩ := h; rfl; done) | (obtain ⟨_, _, _, rfl, _⟩ := h; rfl; done) | (obtain ⟨_, _, _, _, rfl, _⟩ := h; rfl; done) | (obtain ⟨_, _, _, _, _, rfl, _⟩ := h; rfl; done) | (obtain ⟨_, _, _, _, _, _, rfl, _⟩ := h; rfl; done) | (obtain ⟨_, _, _, _, _, _, _, rfl, _⟩ := h; rfl; done) | (obtain ⟨_, _, _, _, _, _, _, _, rfl, _⟩ := h; rfl; done) | (obtain ⟨_, _, _, _, _, _, _, _, _, rfl, _⟩ := h; rfl; done) | (rcases h with ⟨_, rfl | rfl, _⟩ <;> rfl))
  · have tk := takes_of (X := cxOf (L2.CX P w) P w K mg base ["_law_rows_here", "_law_k", "_law_row"] "_law_flipped" (defScope s_flipped) f cdv A outer s H E) rfl rfl rfl rfl
    have hp := passes_of (X := cxOf (L2.CX P w) P w K mg base ["_law_rows_here", "_law_k", "_law_row"] "_law_flipped" (defScope s_flipped) f cdv A outer s H E) rfl
    exact dss_one (ds_ret (de_lc (fz := false) (own := [("_law_k", 1)]) rfl sc_flipped.nd (di_range1 rfl T.m_range (de_len rfl T.m_len (de_sub_ (de_var (pv 0)) (de_int pe_int)))) (blkOk_by (N := ["_law_rows_here", "_law_k", "_law_row"]) (sc := defScope s_flipped) (own := [("_law_k", 1)]) (by decide +kernel)) (ct_name (by decide)) (fun _ _ _ _ _ => pg_name (i := 1) sc_flipped.nd rfl (by first | exact Or.inl rfl | exact Or.inr rfl)) (fun _ _ _ _ _ => dts_nil) (fun _ _ _ _ _ => de_lc (fz := false) (own := [("_law_row", 2)]) rfl sc_flipped.nd (di_any (de_var (pv 0))) (blkOk_by (own := [("_law_row", 2)]) (by rfl)) (ct_name (by decide)) (fun _ _ _ _ _ => pg_name (i := 2) sc_flipped.nd rfl (by first | exact Or.inl rfl | exact Or.inr rfl)) (fun _ _ _ _ _ => dts_nil) (fun _ _ _ _ _ => de_sub_ (de_var (pv 2)) (de_var (pv 1))))))
theorem sc_mixed : FnScope ["_law_state", "_law_rows_here"] ["_law_state", "_law_rows_here"] (defScope s_mixed) := ⟨rfl, rfl, rfl, by decide +kernel, rfl, by decide +kernel, by decide +kernel⟩
theorem has_mixed (T : Txt K C mg) (h_flipped : Has P w K mg base "_law_flipped" 1 ["_law_rows_here"] S_flipped (fun _ => True)) (h_order : Has P w K mg base "_law_order" 2 ["_law_state", "_law_items"] S_order (fun _ => True)) {f : Addr} {fd : FuncData} (F : Fun K "_law_mixed" "_law_mixed" s_mixed f fd) (m : mg "_law_mixed" = some (.ref f)) (b : Binds K fd ["_law_state", "_law_rows_here"] []) (kb : (fun _ => True) fd) :
    Has P w K mg base "_law_mixed" 3 ["_law_state", "_law_rows_here"] S_mixed (fun _ => True) := by
  refine ⟨f, fd, m, F.kp, b, kb, fun_deep (T := t_mixed) (k := 2) F sc_mixed ?_ (fun cdv A outer s H E hr => ?_) rd_mixed⟩
  · intro ds μ Q E h; first | (obtain ⟨rfl, _⟩ := h; rfl; done) | (obtain ⟨_, rfl, _⟩ := h; rfl; done) | (obtain ⟨_, _, rfl, _⟩ := h; rfl; done) | (obtain ⟨_, _, _, rfl, _⟩ := h; rfl; done) | (obtain ⟨_, _, _, _, rfl, _⟩ := h; rfl; done) | (obtain ⟨_, _, _, _, _, rfl, _⟩ := h; rfl; done) | (obtain ⟨_, _, _, _, _, _, rfl, _⟩ := h; rfl; done) | (obtain ⟨_, _, _, _, _, _, _, rfl, _⟩ := h; rfl; done) | (obtain ⟨_, _, _, _, _, _, _, _, rfl, _⟩ := h; rfl; done) | (obtain ⟨_, _, _, _, _, _, _, _, _, rfl, _⟩ := h; rfl; done) | (rcases h with ⟨_, rfl | rfl, _⟩ <;> rfl) | (rcases h with ⟨_, _, rfl | rfl, _⟩ <;> rfl) | (rcases h with h | h <;> first | (obtain ⟨rfl, _⟩ := h; rfl; done) | (obtain ⟨_, rfl, _⟩ := h; rfl; done) | (obtain ⟨_, _, rfl, _⟩ := h; rfl; done) | (obtain ⟨_, _, _, rfl, _⟩ := h; rfl; done) | (obtain ⟨_, _, _, _, rfl, _⟩ := h; rfl; done) | (obtain ⟨_, _, _, _, _, rfl, _⟩ := h; rfl; done) | (obtain ⟨_, _, _, _, _, _, rfl, _⟩ := h; rfl; done) | (obtain ⟨_, _, _, _, _, _, _, rfl, _⟩ := h; rfl; done) | (obtain ⟨_, _, _, _, _, _, _, _, rfl, _⟩ := h; rfl; done) | (obtain ⟨_, _, _, _, _, _, _, _, _, rfl, _⟩ := h; rfl; done) | (rcases h with ⟨_, rfl | rfl, _⟩ <;> rfl))
  · have tk := takes_of (X := cxOf (L2.CX P w) P w K mg base ["_law_state", "_law_rows_here"] "_law_mixed" (defScope s_mixed) f cdv A outer s H E) rfl rfl rfl rfl
    have hp := passes_of (X := cxOf (L2.CX P w) P w K mg base ["_law_state", "_law_rows_here"] "_law_mixed" (defScope s_mixed) f cdv A outer s H E) rfl
    exact dss_one (ds_ret (de_fnH h_flipped (hr.mono (by decide)) rfl tk (da_cons (de_fnH h_order (hr.mono (by decide)) rfl tk (da_cons (de_var (pv 0)) (da_cons (de_fnH h_flipped (hr.mono (by decide)) rfl tk (da_cons (de_fnH h_order (hr.mono (by decide)) rfl tk (da_cons (de_var (pv 0)) (da_cons (de_var (pv 1)) (da_nil)))) (da_nil))) (da_nil)))) (da_nil))))
theorem sc_smooth : FnScope ["_law_state", "_law_names_here", "_law_rows_here", "_law_turn", "_law_word", "_law_plan", "_law_k", "_law_row", "_law_cell"] ["_law_state", "_law_names_here"] (defScope s_smooth) := ⟨rfl, rfl, rfl, by decide +kernel, rfl, by decide +kernel, by decide +kernel⟩
theorem has_smooth (T : Txt K C mg) (h_draw : Has P w K mg base "_law_draw" 1 ["_law_state", "_law_size"] S_draw (fun _ => True)) (h_mixed : Has P w K mg base "_law_mixed" 3 ["_law_state", "_law_rows_here"] S_mixed (fun _ => True)) {f : Addr} {fd : FuncData} (F : Fun K "_law_smooth" "_law_smooth" s_smooth f fd) (m : mg "_law_smooth" = some (.ref f)) (b : Binds K fd ["_law_state", "_law_names_here"] []) (kb : (fun _ => True) fd) :
    Has P w K mg base "_law_smooth" 4 ["_law_state", "_law_names_here"] S_smooth (fun _ => True) := by
  refine ⟨f, fd, m, F.kp, b, kb, fun_deep (T := t_smooth) (k := 3) F sc_smooth ?_ (fun cdv A outer s H E hr => ?_) rd_smooth⟩
  · intro ds μ Q E h; first | (obtain ⟨rfl, _⟩ := h; rfl; done) | (obtain ⟨_, rfl, _⟩ := h; rfl; done) | (obtain ⟨_, _, rfl, _⟩ := h; rfl; done) | (obtain ⟨_, _, _, rfl, _⟩ := h; rfl; done) | (obtain ⟨_, _, _, _, rfl, _⟩ := h; rfl; done) | (obtain ⟨_, _, _, _, _, rfl, _⟩ := h; rfl; done) | (obtain ⟨_, _, _, _, _, _, rfl, _⟩ := h; rfl; done) | (obtain ⟨_, _, _, _, _, _, _, rfl, _⟩ := h; rfl; done) | (obtain ⟨_, _, _, _, _, _, _, _, rfl, _⟩ := h; rfl; done) | (obtain ⟨_, _, _, _, _, _, _, _, _, rfl, _⟩ := h; rfl; done) | (rcases h with ⟨_, rfl | rfl, _⟩ <;> rfl) | (rcases h with ⟨_, _, rfl | rfl, _⟩ <;> rfl) | (rcases h with h | h <;> first | (obtain ⟨rfl, _⟩ := h; rfl; done) | (obtain ⟨_, rfl, _⟩ := h; rfl; done) | (obtain ⟨_, _, rfl, _⟩ := h; rfl; done) | (obtain ⟨_, _, _, rfl, _⟩ := h; rfl; done) | (obtain ⟨_, _, _, _, rfl, _⟩ := h; rfl; done) | (obtain ⟨_, _, _, _, _, rfl, _⟩ := h; rfl; done) | (obtain ⟨_, _, _, _, _, _, rfl, _⟩ := h; rfl; done) | (obtain ⟨_, _, _, _, _, _, _, rfl, _⟩ := h; rfl; done) | (obtain ⟨_, _, _, _, _, _, _, _, rfl, _⟩ := h; rfl; done) | (obtain ⟨_, _, _, _, _, _, _, _, _, rfl, _⟩ := h; rfl; done) | (rcases h with ⟨_, rfl | rfl, _⟩ <;> rfl))
  · have tk := takes_of (X := cxOf (L2.CX P w) P w K mg base ["_law_state", "_law_names_here", "_law_rows_here", "_law_turn", "_law_word", "_law_plan", "_law_k", "_law_row", "_law_cell"] "_law_smooth" (defScope s_smooth) f cdv A outer s H E) rfl rfl rfl rfl
    have hp := passes_of (X := cxOf (L2.CX P w) P w K mg base ["_law_state", "_law_names_here", "_law_rows_here", "_law_turn", "_law_word", "_law_plan", "_law_k", "_law_row", "_law_cell"] "_law_smooth" (defScope s_smooth) f cdv A outer s H E) rfl
    exact dss_cons (ds_set (i := 2) (de_lst (da_cons (de_lst (da_cons (de_sub_ (de_var (pv 1)) (de_fnH h_draw (hr.mono (by decide)) rfl tk (da_cons (de_var (pv 0)) (da_cons (de_len rfl T.m_len (de_var (pv 1))) (da_nil))))) (da_nil))) (da_nil))) sc_smooth.nd)
      (dss_cons (ds_for hp rfl (di_range1 rfl T.m_range (de_fnH h_draw (hr.mono (by decide)) rfl tk (da_cons (de_var (pv 0)) (da_cons (de_int pe_int) (da_nil))))) (dg_name (pg_name (i := 3) sc_smooth.nd rfl (by first | exact Or.inl rfl | exact Or.inr rfl))) (dss_cons (ds_set (i := 4) (de_sub_ (de_var (pv 1)) (de_fnH h_draw (hr.mono (by decide)) rfl tk (da_cons (de_var (pv 0)) (da_cons (de_len rfl T.m_len (de_var (pv 1))) (da_nil))))) sc_smooth.nd)
      (dss_cons (ds_set (i := 5) (de_fnH h_draw (hr.mono (by decide)) rfl tk (da_cons (de_var (pv 0)) (da_cons (de_int pe_int) (da_nil)))) sc_smooth.nd)
      (dss_cons (ds_if (dt_eq hr.units (de_var (pv 5)) (de_int pe_int)) (dss_one (ds_set (i := 2) (de_add (de_var (pv 2)) (de_lst (da_cons (de_lc (fz := true) (own := [("_law_cell", 8)]) rfl sc_smooth.nd (di_any (de_sub_ (de_var (pv 2)) (de_int pe_int))) (blkOk_by (N := ["_law_state", "_law_names_here", "_law_rows_here", "_law_turn", "_law_word", "_law_plan", "_law_k", "_law_row", "_law_cell"]) (sc := defScope s_smooth) (own := [("_law_cell", 8)]) (by decide +kernel)) (ct_name (by decide)) (fun _ _ _ _ _ => pg_name (i := 8) sc_smooth.nd rfl (by first | exact Or.inl rfl | exact Or.inr rfl)) (fun _ _ _ _ _ => dts_nil) (fun _ _ _ _ _ => de_var (pv 4))) (da_nil)))) sc_smooth.nd)) (dss_nil))
      (dss_cons (ds_if (dt_eq hr.units (de_var (pv 5)) (de_int pe_int)) (dss_one (ds_setLc (i := 2) (fz := true) (own := [("_law_row", 7)]) rfl sc_smooth.nd rfl rfl (sw_true rfl rfl rfl (by decide +kernel)) (di_any (de_var (pv 2))) (blkOk_by (N := ["_law_state", "_law_names_here", "_law_rows_here", "_law_turn", "_law_word", "_law_plan", "_law_k", "_law_row", "_law_cell"]) (sc := defScope s_smooth) (own := [("_law_row", 7)]) (by decide +kernel)) (ct_name (by decide)) (fun _ _ _ _ _ => pg_name (i := 7) sc_smooth.nd rfl (by first | exact Or.inl rfl | exact Or.inr rfl)) (fun _ _ _ _ _ => dts_nil) (fun _ _ _ _ _ => de_add (de_var (pv 7)) (de_lst (da_cons (de_var (pv 4)) (da_nil)))))) (dss_nil))
      (dss_cons (ds_if (dt_eq hr.units (de_var (pv 5)) (de_int pe_int)) (dss_one (ds_set (i := 2) (de_add (de_var (pv 2)) (de_lst (da_cons (de_list true rfl T.m_list (de_sub_ (de_var (pv 2)) (de_fnH h_draw (hr.mono (by decide)) rfl tk (da_cons (de_var (pv 0)) (da_cons (de_len rfl T.m_len (de_var (pv 2))) (da_nil)))))) (da_nil)))) sc_smooth.nd)) (dss_nil))
      (dss_one (ds_if (dt_eq hr.units (de_var (pv 5)) (de_int pe_int)) (dss_cons (ds_set (i := 6) (de_fnH h_draw (hr.mono (by decide)) rfl tk (da_cons (de_var (pv 0)) (da_cons (de_len rfl T.m_len (de_sub_ (de_var (pv 2)) (de_int pe_int))) (da_nil)))) sc_smooth.nd)
      (dss_one (ds_setLc (i := 2) (fz := true) (own := [("_law_row", 7)]) rfl sc_smooth.nd rfl rfl (sw_true rfl rfl rfl (by decide +kernel)) (di_any (de_var (pv 2))) (blkOk_by (N := ["_law_state", "_law_names_here", "_law_rows_here", "_law_turn", "_law_word", "_law_plan", "_law_k", "_law_row", "_law_cell"]) (sc := defScope s_smooth) (own := [("_law_row", 7)]) (by decide +kernel)) (ct_name (by decide)) (fun _ _ _ _ _ => pg_name (i := 7) sc_smooth.nd rfl (by first | exact Or.inl rfl | exact Or.inr rfl)) (fun _ _ _ _ _ => dts_nil) (fun _ _ _ _ _ => de_add (de_var (pv 7)) (de_lst (da_cons (de_sub_ (de_var (pv 7)) (de_var (pv 6))) (da_nil))))))) (dss_nil)))))))))
      (dss_one (ds_ret (de_fnH h_mixed (hr.mono (by decide)) rfl tk (da_cons (de_var (pv 0)) (da_cons (de_var (pv 2)) (da_nil)))))))
theorem sc_any_tree : FnScope ["_law_state", "_law_names_here", "_law_side", "_law_count", "_law_groups", "_law_k", "_law_spot", "_law_later", "_law_group"] ["_law_state", "_law_names_here", "_law_side"] (defScope s_any_tree) := ⟨rfl, rfl, rfl, by decide +kernel, rfl, by decide +kernel, by decide +kernel⟩
theorem has0_any_tree {f : Addr} {fd : FuncData} (F : Fun K "_law_any_tree" "_law_any_tree" s_any_tree f fd) (m : mg "_law_any_tree" = some (.ref f)) (b : Binds K fd ["_law_state", "_law_names_here", "_law_side"] []) (kb : (fun _ => True) fd) : Has P w K mg base "_law_any_tree" 1 ["_law_state", "_law_names_here", "_law_side"] (S_any_tree 0) (fun _ => True) := ⟨f, fd, m, F.kp, b, kb, never_ok any_tree_zero⟩
theorem has_any_tree {nn kk : Nat} (hk : 1 ≤ kk) (T : Txt K C mg) (h_any_tree : Has P w K mg base "_law_any_tree" kk ["_law_state", "_law_names_here", "_law_side"] (S_any_tree nn) (fun _ => True)) (h_draw : Has P w K mg base "_law_draw" 1 ["_law_state", "_law_size"] S_draw (fun _ => True)) {f : Addr} {fd : FuncData} (F : Fun K "_law_any_tree" "_law_any_tree" s_any_tree f fd) (m : mg "_law_any_tree" = some (.ref f)) (b : Binds K fd ["_law_state", "_law_names_here", "_law_side"] []) (kb : (fun _ => True) fd) : Has P w K mg base "_law_any_tree" (kk + 1) ["_law_state", "_law_names_here", "_law_side"] (S_any_tree (nn + 1)) (fun _ => True) := by
  refine ⟨f, fd, m, F.kp, b, kb, fun_deep (T := t_any_tree nn) (k := kk) F sc_any_tree ?_ (fun cdv A outer s H E hr => ?_) (rd_any_tree nn)⟩
  · intro ds μ Q E h; first | (obtain ⟨rfl, _⟩ := h; rfl; done) | (obtain ⟨_, rfl, _⟩ := h; rfl; done) | (obtain ⟨_, _, rfl, _⟩ := h; rfl; done) | (obtain ⟨_, _, _, rfl, _⟩ := h; rfl; done) | (obtain ⟨_, _, _, _, rfl, _⟩ := h; rfl; done) | (obtain ⟨_, _, _, _, _, rfl, _⟩ := h; rfl; done) | (obtain ⟨_, _, _, _, _, _, rfl, _⟩ := h; rfl; done) | (obtain ⟨_, _, _, _, _, _, _, rfl, _⟩ := h; rfl; done) | (obtain ⟨_, _, _, _, _, _, _, _, rfl, _⟩ := h; rfl; done) | (obtain ⟨_, _, _, _, _, _, _, _, _, rfl, _⟩ := h; rfl; done) | (rcases h with ⟨_, rfl | rfl, _⟩ <;> rfl) | (rcases h with ⟨_, _, rfl | rfl, _⟩ <;> rfl) | (rcases h with h | h <;> first | (obtain ⟨rfl, _⟩ := h; rfl; done) | (obtain ⟨_, rfl, _⟩ := h; rfl; done) | (obtain ⟨_, _, rfl, _⟩ := h; rfl; done) | (obtain ⟨_, _, _, rfl, _⟩ := h; rfl; done) | (obtain ⟨_, _, _, _, rfl, _⟩ := h; rfl; done) | (obtain ⟨_, _, _, _, _, rfl, _⟩ := h; rfl; done) | (obtain ⟨_, _, _, _, _, _, rfl, _⟩ := h; rfl; done) | (obtain ⟨_, _, _, _, _, _, _, rfl, _⟩ := h; rfl; done) | (obtain ⟨_, _, _, _, _, _, _, _, rfl, _⟩ := h; rfl; done) | (obtain ⟨_, _, _, _, _, _, _, _, _, rfl, _⟩ := h; rfl; done) | (rcases h with ⟨_, rfl | rfl, _⟩ <;> rfl))
  · have tk := takes_of (X := cxOf (L2.CX P w) P w K mg base ["_law_state", "_law_names_here", "_law_side", "_law_count", "_law_groups", "_law_k", "_law_spot", "_law_later", "_law_group"] "_law_any_tree" (defScope s_any_tree) f cdv A outer s H E) rfl rfl rfl rfl
    have hp := passes_of (X := cxOf (L2.CX P w) P w K mg base ["_law_state", "_law_names_here", "_law_side", "_law_count", "_law_groups", "_law_k", "_law_spot", "_law_later", "_law_group"] "_law_any_tree" (defScope s_any_tree) f cdv A outer s H E) rfl
    exact dss_cons (ds_if (dt_eq hr.units (de_len rfl T.m_len (de_var (pv 1))) (de_int pe_int)) (dss_one (ds_ret (de_sub_ (de_var (pv 1)) (de_int pe_int)))) (dss_nil))
      (dss_cons (ds_set (i := 3) (de_add (de_int pe_int) (de_fnH h_draw (hr.mono (Nat.le_trans (m := 1) (by decide) hk)) rfl tk (da_cons (de_var (pv 0)) (da_cons (de_sub (de_len rfl T.m_len (de_var (pv 1))) (de_int pe_int)) (da_nil))))) sc_any_tree.nd)
      (dss_cons (ds_setLc (i := 4) (fz := false) (own := [("_law_k", 5)]) rfl sc_any_tree.nd rfl rfl (sw_true rfl rfl rfl (by decide +kernel)) (di_range1 rfl T.m_range (de_var (pv 3))) (blkOk_by (N := ["_law_state", "_law_names_here", "_law_side", "_law_count", "_law_groups", "_law_k", "_law_spot", "_law_later", "_law_group"]) (sc := defScope s_any_tree) (own := [("_law_k", 5)]) (by decide +kernel)) (ct_name (by decide)) (fun _ _ _ _ _ => pg_name (i := 5) sc_any_tree.nd rfl (by first | exact Or.inl rfl | exact Or.inr rfl)) (fun _ _ _ _ _ => dts_nil) (fun _ _ _ _ _ => de_lstM (da_nil)))
      (dss_cons (ds_for hp rfl (di_range1 rfl T.m_range (de_len rfl T.m_len (de_var (pv 1)))) (dg_name (pg_name (i := 5) sc_any_tree.nd rfl (by first | exact Or.inl rfl | exact Or.inr rfl))) (dss_cons (ds_set (i := 6) (de_var (pv 5)) sc_any_tree.nd)
      (dss_cons (ds_if (dt_ge (de_var (pv 5)) (de_var (pv 3))) (dss_one (ds_set (i := 6) (de_fnH h_draw (hr.mono (Nat.le_trans (m := 1) (by decide) hk)) rfl tk (da_cons (de_var (pv 0)) (da_cons (de_var (pv 3)) (da_nil)))) sc_any_tree.nd)) (dss_nil))
      (dss_one (ds_drop (de_append (de_sub_ (de_var (pv 4)) (de_var (pv 6))) (de_sub_ (de_var (pv 1)) (de_var (pv 5)))))))))
      (dss_cons (ds_set (i := 7) (de_dget (hu_of hr) (de_dict true (.cons (de_str pe_str) (de_str pe_str) (.cons (de_str pe_str) (de_str pe_str) (.nil)))) (de_var (pv 2))) sc_any_tree.nd)
      (dss_one (ds_ret (de_tup (da_cons (de_var (pv 2)) (da_cons (de_lc (fz := true) (own := [("_law_group", 8)]) rfl sc_any_tree.nd (di_any (de_var (pv 4))) (blkOk_by (N := ["_law_state", "_law_names_here", "_law_side", "_law_count", "_law_groups", "_law_k", "_law_spot", "_law_later", "_law_group"]) (sc := defScope s_any_tree) (own := [("_law_group", 8)]) (by decide +kernel)) (ct_name (by decide)) (fun _ _ _ _ _ => pg_name (i := 8) sc_any_tree.nd rfl (by first | exact Or.inl rfl | exact Or.inr rfl)) (fun _ _ _ _ _ => dts_nil) (fun _ _ _ _ _ => de_fnH h_any_tree (hr.mono (Nat.le_refl _)) rfl takes0 (da_cons (de_var (pv 0)) (da_cons (de_var (pv 8)) (da_cons (de_var (pv 7)) (da_nil)))))) (da_nil))))))))))
theorem sc_ways : FnScope ["_law_sizes", "_law_found", "_law_size", "_law_more", "_law_way", "_law_k"] ["_law_sizes"] (defScope s_ways) := ⟨rfl, rfl, rfl, by decide +kernel, rfl, by decide +kernel, by decide +kernel⟩
theorem has_ways (T : Txt K C mg)  {f : Addr} {fd : FuncData} (F : Fun K "_law_ways" "_law_ways" s_ways f fd) (m : mg "_law_ways" = some (.ref f)) (b : Binds K fd ["_law_sizes"] []) (kb : (fun _ => True) fd) :
    Has P w K mg base "_law_ways" 1 ["_law_sizes"] S_ways (fun _ => True) := by
  refine ⟨f, fd, m, F.kp, b, kb, fun_deep (T := t_ways) (k := 0) F sc_ways ?_ (fun cdv A outer s H E hr => ?_) rd_ways⟩
  · intro ds μ Q E h; first | (obtain ⟨rfl, _⟩ := h; rfl; done) | (obtain ⟨_, rfl, _⟩ := h; rfl; done) | (obtain ⟨_, _, rfl, _⟩ := h; rfl; done) | (obtain ⟨_, _, _, rfl, _⟩ := h; rfl; done) | (obtain ⟨_, _, _, _, rfl, _⟩ := h; rfl; done) | (obtain ⟨_, _, _, _, _, rfl, _⟩ := h; rfl; done) | (obtain ⟨_, _, _, _, _, _, rfl, _⟩ := h; rfl; done) | (obtain ⟨_, _, _, _, _, _, _, rfl, _⟩ := h; rfl; done) | (obtain ⟨_, _, _, _, _, _, _, _, rfl, _⟩ := h; rfl; done) | (obtain ⟨_, _, _, _, _, _, _, _, _, rfl, _⟩ := h; rfl; done) | (rcases h with ⟨_, rfl | rfl, _⟩ <;> rfl) | (rcases h with ⟨_, _, rfl | rfl, _⟩ <;> rfl) | (rcases h with h | h <;> first | (obtain ⟨rfl, _⟩ := h; rfl; done) | (obtain ⟨_, rfl, _⟩ := h; rfl; done) | (obtain ⟨_, _, rfl, _⟩ := h; rfl; done) | (obtain ⟨_, _, _, rfl, _⟩ := h; rfl; done) | (obtain ⟨_, _, _, _, rfl, _⟩ := h; rfl; done) | (obtain ⟨_, _, _, _, _, rfl, _⟩ := h; rfl; done) | (obtain ⟨_, _, _, _, _, _, rfl, _⟩ := h; rfl; done) | (obtain ⟨_, _, _, _, _, _, _, rfl, _⟩ := h; rfl; done) | (obtain ⟨_, _, _, _, _, _, _, _, rfl, _⟩ := h; rfl; done) | (obtain ⟨_, _, _, _, _, _, _, _, _, rfl, _⟩ := h; rfl; done) | (rcases h with ⟨_, rfl | rfl, _⟩ <;> rfl))
  · have tk := takes_of (X := cxOf (L2.CX P w) P w K mg base ["_law_sizes", "_law_found", "_law_size", "_law_more", "_law_way", "_law_k"] "_law_ways" (defScope s_ways) f cdv A outer s H E) rfl rfl rfl rfl
    have hp := passes_of (X := cxOf (L2.CX P w) P w K mg base ["_law_sizes", "_law_found", "_law_size", "_law_more", "_law_way", "_law_k"] "_law_ways" (defScope s_ways) f cdv A outer s H E) rfl
    exact dss_cons (ds_set (i := 1) (de_lst (da_cons (de_tup (da_nil)) (da_nil))) sc_ways.nd)
      (dss_cons (ds_for hp rfl (di_any (de_var (pv 0))) (dg_name (pg_name (i := 2) sc_ways.nd rfl (by first | exact Or.inl rfl | exact Or.inr rfl))) (dss_cons (ds_set (i := 3) (de_lst (da_nil)) sc_ways.nd)
      (dss_cons (ds_for hp rfl (di_any (de_var (pv 1))) (dg_name (pg_name (i := 4) sc_ways.nd rfl (by first | exact Or.inl rfl | exact Or.inr rfl))) (dss_one (ds_set (i := 3) (de_add (de_var (pv 3)) (de_lc (fz := true) (own := [("_law_k", 5)]) rfl sc_ways.nd (di_range1 rfl T.m_range (de_var (pv 2))) (blkOk_by (N := ["_law_sizes", "_law_found", "_law_size", "_law_more", "_law_way", "_law_k"]) (sc := defScope s_ways) (own := [("_law_k", 5)]) (by decide +kernel)) (ct_name (by decide)) (fun _ _ _ _ _ => pg_name (i := 5) sc_ways.nd rfl (by first | exact Or.inl rfl | exact Or.inr rfl)) (fun _ _ _ _ _ => dts_nil) (fun _ _ _ _ _ => de_add (de_var (pv 4)) (de_tup (da_cons (de_var (pv 5)) (da_nil)))))) sc_ways.nd)))
      (dss_one (ds_set (i := 1) (de_var (pv 3)) sc_ways.nd)))))
      (dss_one (ds_ret (de_var (pv 1)))))
theorem sc_tree_rows : FnScope ["_law_tree", "_law_made", "_law_found", "_law_k", "_law_row", "_law_part", "_law_rows_here", "_law_way"] ["_law_tree"] (defScope s_tree_rows) := ⟨rfl, rfl, rfl, by decide +kernel, rfl, by decide +kernel, by decide +kernel⟩
theorem has0_tree_rows {f : Addr} {fd : FuncData} (F : Fun K "_law_tree_rows" "_law_tree_rows" s_tree_rows f fd) (m : mg "_law_tree_rows" = some (.ref f)) (b : Binds K fd ["_law_tree"] []) (kb : (fun _ => True) fd) : Has P w K mg base "_law_tree_rows" 1 ["_law_tree"] (S_tree_rows 0) (fun _ => True) := ⟨f, fd, m, F.kp, b, kb, never_ok tree_rows_zero⟩
theorem has_tree_rows {nn kk : Nat} (hk : 1 ≤ kk) (T : Txt K C mg) (h_tree_rows : Has P w K mg base "_law_tree_rows" kk ["_law_tree"] (S_tree_rows nn) (fun _ => True)) (h_flipped : Has P w K mg base "_law_flipped" 1 ["_law_rows_here"] S_flipped (fun _ => True)) (h_ways : Has P w K mg base "_law_ways" 1 ["_law_sizes"] S_ways (fun _ => True)) {f : Addr} {fd : FuncData} (F : Fun K "_law_tree_rows" "_law_tree_rows" s_tree_rows f fd) (m : mg "_law_tree_rows" = some (.ref f)) (b : Binds K fd ["_law_tree"] []) (kb : (fun _ => True) fd) : Has P w K mg base "_law_tree_rows" (kk + 1) ["_law_tree"] (S_tree_rows (nn + 1)) (fun _ => True) := by
  refine ⟨f, fd, m, F.kp, b, kb, fun_deep (T := t_tree_rows nn) (k := kk) F sc_tree_rows ?_ (fun cdv A outer s H E hr => ?_) (rd_tree_rows nn)⟩
  · intro ds μ Q E h; first | (obtain ⟨rfl, _⟩ := h; rfl; done) | (obtain ⟨_, rfl, _⟩ := h; rfl; done) | (obtain ⟨_, _, rfl, _⟩ := h; rfl; done) | (obtain ⟨_, _, _, rfl, _⟩ := h; rfl; done) | (obtain ⟨_, _, _, _, rfl, _⟩ := h; rfl; done) | (obtain ⟨_, _, _, _, _, rfl, _⟩ := h; rfl; done) | (obtain ⟨_, _, _, _, _, _, rfl, _⟩ := h; rfl; done) | (obtain ⟨_, _, _, _, _, _, _, rfl, _⟩ := h; rfl; done) | (obtain ⟨_, _, _, _, _, _, _, _, rfl, _⟩ := h; rfl; done) | (obtain ⟨_, _, _, _, _, _, _, _, _, rfl, _⟩ := h; rfl; done) | (rcases h with ⟨_, rfl | rfl, _⟩ <;> rfl) | (rcases h with ⟨_, _, rfl | rfl, _⟩ <;> rfl) | (rcases h with h | h <;> first | (obtain ⟨rfl, _⟩ := h; rfl; done) | (obtain ⟨_, rfl, _⟩ := h; rfl; done) | (obtain ⟨_, _, rfl, _⟩ := h; rfl; done) | (obtain ⟨_, _, _, rfl, _⟩ := h; rfl; done) | (obtain ⟨_, _, _, _, rfl, _⟩ := h; rfl; done) | (obtain ⟨_, _, _, _, _, rfl, _⟩ := h; rfl; done) | (obtain ⟨_, _, _, _, _, _, rfl, _⟩ := h; rfl; done) | (obtain ⟨_, _, _, _, _, _, _, rfl, _⟩ := h; rfl; done) | (obtain ⟨_, _, _, _, _, _, _, _, rfl, _⟩ := h; rfl; done) | (obtain ⟨_, _, _, _, _, _, _, _, _, rfl, _⟩ := h; rfl; done) | (rcases h with ⟨_, rfl | rfl, _⟩ <;> rfl))
  · have tk := takes_of (X := cxOf (L2.CX P w) P w K mg base ["_law_tree", "_law_made", "_law_found", "_law_k", "_law_row", "_law_part", "_law_rows_here", "_law_way"] "_law_tree_rows" (defScope s_tree_rows) f cdv A outer s H E) rfl rfl rfl rfl
    have hp := passes_of (X := cxOf (L2.CX P w) P w K mg base ["_law_tree", "_law_made", "_law_found", "_law_k", "_law_row", "_law_part", "_law_rows_here", "_law_way"] "_law_tree_rows" (defScope s_tree_rows) f cdv A outer s H E) rfl
    exact dss_cons (ds_if (dt_val (de_isi .str (by decide) rfl T.m_isinstance (de_var (pv 0)) rfl T.m_str (by decide +kernel))) (dss_one (ds_ret (de_lstM (da_cons (de_lstM (da_cons (de_var (pv 0)) (da_nil))) (da_nil))))) (dss_nil))
      (dss_cons (ds_setLc (i := 1) (fz := true) (own := [("_law_part", 5)]) rfl sc_tree_rows.nd rfl rfl (sw_true rfl rfl rfl (by decide +kernel)) (di_any (de_sub_ (de_var (pv 0)) (de_int pe_int))) (blkOk_by (N := ["_law_tree", "_law_made", "_law_found", "_law_k", "_law_row", "_law_part", "_law_rows_here", "_law_way"]) (sc := defScope s_tree_rows) (own := [("_law_part", 5)]) (by decide +kernel)) (ct_name (by decide)) (fun _ _ _ _ _ => pg_name (i := 5) sc_tree_rows.nd rfl (by first | exact Or.inl rfl | exact Or.inr rfl)) (fun _ _ _ _ _ => dts_nil) (fun _ _ _ _ _ => de_fnH h_tree_rows (hr.mono (Nat.le_refl _)) rfl takes0 (da_cons (de_var (pv 5)) (da_nil))))
      (dss_cons (ds_if (dt_eq hr.units (de_sub_ (de_var (pv 0)) (de_int pe_int)) (de_str pe_str)) (dss_one (ds_setLc (i := 1) (fz := true) (own := [("_law_rows_here", 6)]) rfl sc_tree_rows.nd rfl rfl (sw_true rfl rfl rfl (by decide +kernel)) (di_any (de_var (pv 1))) (blkOk_by (N := ["_law_tree", "_law_made", "_law_found", "_law_k", "_law_row", "_law_part", "_law_rows_here", "_law_way"]) (sc := defScope s_tree_rows) (own := [("_law_rows_here", 6)]) (by decide +kernel)) (ct_name (by decide)) (fun _ _ _ _ _ => pg_name (i := 6) sc_tree_rows.nd rfl (by first | exact Or.inl rfl | exact Or.inr rfl)) (fun _ _ _ _ _ => dts_nil) (fun _ _ _ _ _ => de_fnH h_flipped (hr.mono (Nat.le_trans (m := 1) (by decide) hk)) rfl takes0 (da_cons (de_var (pv 6)) (da_nil))))) (dss_nil))
      (dss_cons (ds_set (i := 2) (de_lstM (da_nil)) sc_tree_rows.nd)
      (dss_cons (ds_for hp rfl (di_range1 rfl T.m_range (de_len rfl T.m_len (de_var (pv 1)))) (dg_name (pg_name (i := 3) sc_tree_rows.nd rfl (by first | exact Or.inl rfl | exact Or.inr rfl))) (dss_one (ds_for hp rfl (di_any (de_sub_ (de_var (pv 1)) (de_var (pv 3)))) (dg_name (pg_name (i := 4) sc_tree_rows.nd rfl (by first | exact Or.inl rfl | exact Or.inr rfl))) (dss_one (ds_drop (de_append (de_var (pv 2)) (de_lc (fz := false) (own := [("_law_way", 7)]) rfl sc_tree_rows.nd (di_any (de_fnH h_ways (hr.mono (Nat.le_trans (m := 1) (by decide) hk)) rfl tk (da_cons (de_lc (fz := true) (own := [("_law_rows_here", 6)]) rfl sc_tree_rows.nd (di_any (de_var (pv 1))) (blkOk_by (N := ["_law_tree", "_law_made", "_law_found", "_law_k", "_law_row", "_law_part", "_law_rows_here", "_law_way"]) (sc := defScope s_tree_rows) (own := [("_law_rows_here", 6)]) (by decide +kernel)) (ct_name (by decide)) (fun _ _ _ _ _ => pg_name (i := 6) sc_tree_rows.nd rfl (by first | exact Or.inl rfl | exact Or.inr rfl)) (fun _ _ _ _ _ => dts_nil) (fun _ _ _ _ _ => de_len rfl T.m_len (de_sub_ (de_var (pv 6)) (de_int pe_int)))) (da_nil)))) (blkOk_by (N := ["_law_tree", "_law_made", "_law_found", "_law_k", "_law_row", "_law_part", "_law_rows_here", "_law_way"]) (sc := defScope s_tree_rows) (own := [("_law_way", 7)]) (by decide +kernel)) (ct_name (by decide)) (fun _ _ _ _ _ => pg_name (i := 7) sc_tree_rows.nd rfl (by first | exact Or.inl rfl | exact Or.inr rfl)) (fun _ _ _ _ _ => dts_nil) (fun _ _ _ _ _ => de_sub_ (de_var (pv 4)) (de_sub_ (de_var (pv 7)) (de_var (pv 3)))))))))))
      (dss_cons (ds_if (dt_eq hr.units (de_sub_ (de_var (pv 0)) (de_int pe_int)) (de_str pe_str)) (dss_one (ds_ret (de_fnH h_flipped (hr.mono (Nat.le_trans (m := 1) (by decide) hk)) rfl tk (da_cons (de_var (pv 2)) (da_nil))))) (dss_nil))
      (dss_one (ds_ret (de_var (pv 2)))))))))
theorem sc_no_tree : FnScope ["_law_state", "_law_names_here", "_law_a", "_law_b", "_law_c", "_law_d", "_law_rows_here", "_law_left", "_law_word", "_law_row", "_law_cell"] ["_law_state", "_law_names_here"] (defScope s_no_tree) := ⟨rfl, rfl, rfl, by decide +kernel, rfl, by decide +kernel, by decide +kernel⟩
theorem has_no_tree (T : Txt K C mg) (h_draw : Has P w K mg base "_law_draw" 1 ["_law_state", "_law_size"] S_draw (fun _ => True)) {f : Addr} {fd : FuncData} (F : Fun K "_law_no_tree" "_law_no_tree" s_no_tree f fd) (m : mg "_law_no_tree" = some (.ref f)) (b : Binds K fd ["_law_state", "_law_names_here"] []) (kb : (fun _ => True) fd) :
    Has P w K mg base "_law_no_tree" 2 ["_law_state", "_law_names_here"] S_no_tree (fun _ => True) := by
  refine ⟨f, fd, m, F.kp, b, kb, fun_deep (T := t_no_tree) (k := 1) F sc_no_tree ?_ (fun cdv A outer s H E hr => ?_) rd_no_tree⟩
  · intro ds μ Q E h; first | (obtain ⟨rfl, _⟩ := h; rfl; done) | (obtain ⟨_, rfl, _⟩ := h; rfl; done) | (obtain ⟨_, _, rfl, _⟩ := h; rfl; done) | (obtain ⟨_, _, _, rfl, _⟩ := h; rfl; done) | (obtain ⟨_, _, _, _, rfl, _⟩ := h; rfl; done) | (obtain ⟨_, _, _, _, _, rfl, _⟩ := h; rfl; done) | (obtain ⟨_, _, _, _, _, _, rfl, _⟩ := h; rfl; done) | (obtain ⟨_, _, _, _, _, _, _, rfl, _⟩ := h; rfl; done) | (obtain ⟨_, _, _, _, _, _, _, _, rfl, _⟩ := h; rfl; done) | (obtain ⟨_, _, _, _, _, _, _, _, _, rfl, _⟩ := h; rfl; done) | (rcases h with ⟨_, rfl | rfl, _⟩ <;> rfl) | (rcases h with ⟨_, _, rfl | rfl, _⟩ <;> rfl) | (rcases h with h | h <;> first | (obtain ⟨rfl, _⟩ := h; rfl; done) | (obtain ⟨_, rfl, _⟩ := h; rfl; done) | (obtain ⟨_, _, rfl, _⟩ := h; rfl; done) | (obtain ⟨_, _, _, rfl, _⟩ := h; rfl; done) | (obtain ⟨_, _, _, _, rfl, _⟩ := h; rfl; done) | (obtain ⟨_, _, _, _, _, rfl, _⟩ := h; rfl; done) | (obtain ⟨_, _, _, _, _, _, rfl, _⟩ := h; rfl; done) | (obtain ⟨_, _, _, _, _, _, _, rfl, _⟩ := h; rfl; done) | (obtain ⟨_, _, _, _, _, _, _, _, rfl, _⟩ := h; rfl; done) | (obtain ⟨_, _, _, _, _, _, _, _, _, rfl, _⟩ := h; rfl; done) | (rcases h with ⟨_, rfl | rfl, _⟩ <;> rfl))
  · have tk := takes_of (X := cxOf (L2.CX P w) P w K mg base ["_law_state", "_law_names_here", "_law_a", "_law_b", "_law_c", "_law_d", "_law_rows_here", "_law_left", "_law_word", "_law_row", "_law_cell"] "_law_no_tree" (defScope s_no_tree) f cdv A outer s H E) rfl rfl rfl rfl
    have hp := passes_of (X := cxOf (L2.CX P w) P w K mg base ["_law_state", "_law_names_here", "_law_a", "_law_b", "_law_c", "_law_d", "_law_rows_here", "_law_left", "_law_word", "_law_row", "_law_cell"] "_law_no_tree" (defScope s_no_tree) f cdv A outer s H E) rfl
    exact dss_cons (ds_asg (de_slice true (de_add (de_var (pv 1)) (de_slice true (de_var (pv 1)) do_none (do_some (de_int pe_int)))) do_none (do_some (de_int pe_int))) (dg_quadL (pg_unl rfl (pgs_cons (pg_name (i := 2) sc_no_tree.nd rfl (by first | exact Or.inl rfl | exact Or.inr rfl)) (pgs_cons (pg_name (i := 3) sc_no_tree.nd rfl (by first | exact Or.inl rfl | exact Or.inr rfl)) (pgs_cons (pg_name (i := 4) sc_no_tree.nd rfl (by first | exact Or.inl rfl | exact Or.inr rfl)) (pgs_cons (pg_name (i := 5) sc_no_tree.nd rfl (by first | exact Or.inl rfl | exact Or.inr rfl)) pgs_nil)))))))
      (dss_cons (ds_set (i := 6) (de_lst (da_cons (de_lst (da_cons (de_var (pv 2)) (da_cons (de_var (pv 2)) (da_cons (de_var (pv 3)) (da_nil))))) (da_cons (de_lst (da_cons (de_var (pv 2)) (da_cons (de_var (pv 2)) (da_cons (de_var (pv 4)) (da_nil))))) (da_cons (de_lst (da_cons (de_var (pv 3)) (da_cons (de_var (pv 4)) (da_cons (de_var (pv 3)) (da_nil))))) (da_nil))))) sc_no_tree.nd)
      (dss_cons (ds_set (i := 7) (de_slice true (de_var (pv 1)) (do_some (de_int pe_int)) do_none) sc_no_tree.nd)
      (dss_cons (ds_if (PW.pt (pw_and' (dt_gt (de_len rfl T.m_len (de_var (pv 1))) (de_int pe_int)) (pw_and1 (dt_eq hr.units (de_fnH h_draw (hr.mono (by decide)) rfl tk (da_cons (de_var (pv 0)) (da_cons (de_int pe_int) (da_nil)))) (de_int pe_int))))) (dss_cons (ds_set (i := 6) (de_lst (da_cons (de_lst (da_cons (de_var (pv 3)) (da_cons (de_var (pv 3)) (da_cons (de_var (pv 2)) (da_nil))))) (da_cons (de_lst (da_cons (de_var (pv 3)) (da_cons (de_var (pv 3)) (da_cons (de_var (pv 4)) (da_nil))))) (da_cons (de_lst (da_cons (de_var (pv 4)) (da_cons (de_var (pv 5)) (da_cons (de_var (pv 4)) (da_nil))))) (da_nil))))) sc_no_tree.nd)
      (dss_one (ds_set (i := 7) (de_slice true (de_var (pv 1)) (do_some (de_int pe_int)) do_none) sc_no_tree.nd))) (dss_nil))
      (dss_cons (ds_for hp rfl (di_any (de_var (pv 7))) (dg_name (pg_name (i := 8) sc_no_tree.nd rfl (by first | exact Or.inl rfl | exact Or.inr rfl))) (dss_one (ds_if (dt_eq hr.units (de_fnH h_draw (hr.mono (by decide)) rfl tk (da_cons (de_var (pv 0)) (da_cons (de_int pe_int) (da_nil)))) (de_int pe_int)) (dss_one (ds_set (i := 6) (de_add (de_var (pv 6)) (de_lst (da_cons (de_lc (fz := true) (own := [("_law_cell", 10)]) rfl sc_no_tree.nd (di_any (de_sub_ (de_var (pv 6)) (de_int pe_int))) (blkOk_by (N := ["_law_state", "_law_names_here", "_law_a", "_law_b", "_law_c", "_law_d", "_law_rows_here", "_law_left", "_law_word", "_law_row", "_law_cell"]) (sc := defScope s_no_tree) (own := [("_law_cell", 10)]) (by decide +kernel)) (ct_name (by decide)) (fun _ _ _ _ _ => pg_name (i := 10) sc_no_tree.nd rfl (by first | exact Or.inl rfl | exact Or.inr rfl)) (fun _ _ _ _ _ => dts_nil) (fun _ _ _ _ _ => de_var (pv 8))) (da_nil)))) sc_no_tree.nd)) (dss_one (ds_setLc (i := 6) (fz := true) (own := [("_law_row", 9)]) rfl sc_no_tree.nd rfl rfl (sw_true rfl rfl rfl (by decide +kernel)) (di_any (de_var (pv 6))) (blkOk_by (N := ["_law_state", "_law_names_here", "_law_a", "_law_b", "_law_c", "_law_d", "_law_rows_here", "_law_left", "_law_word", "_law_row", "_law_cell"]) (sc := defScope s_no_tree) (own := [("_law_row", 9)]) (by decide +kernel)) (ct_name (by decide)) (fun _ _ _ _ _ => pg_name (i := 9) sc_no_tree.nd rfl (by first | exact Or.inl rfl | exact Or.inr rfl)) (fun _ _ _ _ _ => dts_nil) (fun _ _ _ _ _ => de_add (de_var (pv 9)) (de_lst (da_cons (de_var (pv 8)) (da_nil)))))))))
      (dss_one (ds_ret (de_var (pv 6))))))))
theorem sc_rows : FnScope ["_law_state", "_law_names_here", "_law_plan", "_law_height", "_law_width", "_law_rows_here", "_law_side", "_law_found", "_law_r", "_law_c"] ["_law_state", "_law_names_here"] (defScope s_rows) := ⟨rfl, rfl, rfl, by decide +kernel, rfl, by decide +kernel, by decide +kernel⟩
theorem has_rows (T : Txt K C mg) (h_any_tree : Has P w K mg base "_law_any_tree" 7 ["_law_state", "_law_names_here", "_law_side"] (S_any_tree 6) (fun _ => True)) (h_draw : Has P w K mg base "_law_draw" 1 ["_law_state", "_law_size"] S_draw (fun _ => True)) (h_mixed : Has P w K mg base "_law_mixed" 3 ["_law_state", "_law_rows_here"] S_mixed (fun _ => True)) (h_no_tree : Has P w K mg base "_law_no_tree" 2 ["_law_state", "_law_names_here"] S_no_tree (fun _ => True)) (h_order : Has P w K mg base "_law_order" 2 ["_law_state", "_law_items"] S_order (fun _ => True)) (h_smooth : Has P w K mg base "_law_smooth" 4 ["_law_state", "_law_names_here"] S_smooth (fun _ => True)) (h_tree_rows : Has P w K mg base "_law_tree_rows" 7 ["_law_tree"] (S_tree_rows 6) (fun _ => True)) {f : Addr} {fd : FuncData} (F : Fun K "_law_rows" "_law_rows" s_rows f fd) (m : mg "_law_rows" = some (.ref f)) (b : Binds K fd ["_law_state", "_law_names_here"] []) (kb : (fun _ => True) fd) :
    Has P w K mg base "_law_rows" 8 ["_law_state", "_law_names_here"] S_rows (fun _ => True) := by
  refine ⟨f, fd, m, F.kp, b, kb, fun_deep (T := t_rows) (k := 7) F sc_rows ?_ (fun cdv A outer s H E hr => ?_) rd_rows⟩
  · intro ds μ Q E h; first | (obtain ⟨rfl, _⟩ := h; rfl; done) | (obtain ⟨_, rfl, _⟩ := h; rfl; done) | (obtain ⟨_, _, rfl, _⟩ := h; rfl; done) | (obtain ⟨_, _, _, rfl, _⟩ := h; rfl; done) | (obtain ⟨_, _, _, _, rfl, _⟩ := h; rfl; done) | (obtain ⟨_, _, _, _, _, rfl, _⟩ := h; rfl; done) | (obtain ⟨_, _, _, _, _, _, rfl, _⟩ := h; rfl; done) | (obtain ⟨_, _, _, _, _, _, _, rfl, _⟩ := h; rfl; done) | (obtain ⟨_, _, _, _, _, _, _, _, rfl, _⟩ := h; rfl; done) | (obtain ⟨_, _, _, _, _, _, _, _, _, rfl, _⟩ := h; rfl; done) | (rcases h with ⟨_, rfl | rfl, _⟩ <;> rfl) | (rcases h with ⟨_, _, rfl | rfl, _⟩ <;> rfl) | (rcases h with h | h <;> first | (obtain ⟨rfl, _⟩ := h; rfl; done) | (obtain ⟨_, rfl, _⟩ := h; rfl; done) | (obtain ⟨_, _, rfl, _⟩ := h; rfl; done) | (obtain ⟨_, _, _, rfl, _⟩ := h; rfl; done) | (obtain ⟨_, _, _, _, rfl, _⟩ := h; rfl; done) | (obtain ⟨_, _, _, _, _, rfl, _⟩ := h; rfl; done) | (obtain ⟨_, _, _, _, _, _, rfl, _⟩ := h; rfl; done) | (obtain ⟨_, _, _, _, _, _, _, rfl, _⟩ := h; rfl; done) | (obtain ⟨_, _, _, _, _, _, _, _, rfl, _⟩ := h; rfl; done) | (obtain ⟨_, _, _, _, _, _, _, _, _, rfl, _⟩ := h; rfl; done) | (rcases h with ⟨_, rfl | rfl, _⟩ <;> rfl))
  · have tk := takes_of (X := cxOf (L2.CX P w) P w K mg base ["_law_state", "_law_names_here", "_law_plan", "_law_height", "_law_width", "_law_rows_here", "_law_side", "_law_found", "_law_r", "_law_c"] "_law_rows" (defScope s_rows) f cdv A outer s H E) rfl rfl rfl rfl
    have hp := passes_of (X := cxOf (L2.CX P w) P w K mg base ["_law_state", "_law_names_here", "_law_plan", "_law_height", "_law_width", "_law_rows_here", "_law_side", "_law_found", "_law_r", "_law_c"] "_law_rows" (defScope s_rows) f cdv A outer s H E) rfl
    exact dss_cons (ds_set (i := 2) (de_fnH h_draw (hr.mono (by decide)) rfl tk (da_cons (de_var (pv 0)) (da_cons (de_int pe_int) (da_nil)))) sc_rows.nd)
      (dss_cons (ds_set (i := 3) (de_add (de_int pe_int) (de_fnH h_draw (hr.mono (by decide)) rfl tk (da_cons (de_var (pv 0)) (da_cons (de_sub_ (de_lst (da_cons (de_int pe_int) (da_cons (de_int pe_int) (da_cons (de_int pe_int) (da_nil))))) (de_fnH h_draw (hr.mono (by decide)) rfl tk (da_cons (de_var (pv 0)) (da_cons (de_int pe_int) (da_nil))))) (da_nil))))) sc_rows.nd)
      (dss_cons (ds_set (i := 4) (de_add (de_int pe_int) (de_fnH h_draw (hr.mono (by decide)) rfl tk (da_cons (de_var (pv 0)) (da_cons (de_sub_ (de_lst (da_cons (de_int pe_int) (da_cons (de_int pe_int) (da_cons (de_int pe_int) (da_nil))))) (de_fnH h_draw (hr.mono (by decide)) rfl tk (da_cons (de_var (pv 0)) (da_cons (de_int pe_int) (da_nil))))) (da_nil))))) sc_rows.nd)
      (dss_cons (ds_setLc (i := 5) (fz := true) (own := [("_law_r", 8)]) rfl sc_rows.nd rfl rfl (sw_true rfl rfl rfl (by decide +kernel)) (di_range1 rfl T.m_range (de_var (pv 3))) (blkOk_by (N := ["_law_state", "_law_names_here", "_law_plan", "_law_height", "_law_width", "_law_rows_here", "_law_side", "_law_found", "_law_r", "_law_c"]) (sc := defScope s_rows) (own := [("_law_r", 8)]) (by decide +kernel)) (ct_name (by decide)) (fun _ _ _ _ _ => pg_name (i := 8) sc_rows.nd rfl (by first | exact Or.inl rfl | exact Or.inr rfl)) (fun _ _ _ _ _ => dts_nil) (fun _ _ _ _ _ => de_lc (fz := true) (own := [("_law_c", 9)]) rfl sc_rows.nd (di_range1 rfl T.m_range (de_var (pv 4))) (blkOk_by (own := [("_law_c", 9)]) (by rfl)) (ct_name (by decide)) (fun _ _ _ _ _ => pg_name (i := 9) sc_rows.nd rfl (by first | exact Or.inl rfl | exact Or.inr rfl)) (fun _ _ _ _ _ => dts_nil) (fun _ _ _ _ _ => de_sub_ (de_var (pv 1)) (de_fnH h_draw (hr.mono (by decide)) rfl takes0 (da_cons (de_var (pv 0)) (da_cons (de_len rfl T.m_len (de_var (pv 1))) (da_nil)))))))
      (dss_cons (ds_if (dt_eq hr.units (de_var (pv 2)) (de_int pe_int)) (dss_one (ds_ret (de_var (pv 5)))) (dss_nil))
      (dss_cons (ds_if (dt_eq hr.units (de_var (pv 2)) (de_int pe_int)) (dss_one (ds_ret (de_fnH h_smooth (hr.mono (by decide)) rfl tk (da_cons (de_var (pv 0)) (da_cons (de_var (pv 1)) (da_nil)))))) (dss_nil))
      (dss_cons (ds_if (PW.pt (pw_and' (dt_eq hr.units (de_var (pv 2)) (de_int pe_int)) (pw_and1 (dt_gt (de_len rfl T.m_len (de_var (pv 1))) (de_int pe_int))))) (dss_one (ds_ret (de_fnH h_mixed (hr.mono (by decide)) rfl tk (da_cons (de_var (pv 0)) (da_cons (de_fnH h_no_tree (hr.mono (by decide)) rfl tk (da_cons (de_var (pv 0)) (da_cons (de_var (pv 1)) (da_nil)))) (da_nil)))))) (dss_nil))
      (dss_cons (ds_set (i := 6) (de_sub_ (de_lst (da_cons (de_str pe_str) (da_cons (de_str pe_str) (da_nil)))) (de_fnH h_draw (hr.mono (by decide)) rfl tk (da_cons (de_var (pv 0)) (da_cons (de_int pe_int) (da_nil))))) sc_rows.nd)
      (dss_cons (ds_set (i := 7) (de_fnH h_tree_rows (hr.mono (by decide)) rfl tk (da_cons (de_fnH h_any_tree (hr.mono (by decide)) rfl tk (da_cons (de_var (pv 0)) (da_cons (de_fnH h_order (hr.mono (by decide)) rfl tk (da_cons (de_var (pv 0)) (da_cons (de_var (pv 1)) (da_nil)))) (da_cons (de_var (pv 6)) (da_nil))))) (da_nil))) sc_rows.nd)
      (dss_cons (ds_if (PW.pt (pw_or' (dt_gt (de_len rfl T.m_len (de_var (pv 7))) (de_int pe_int)) (pw_or1 (dt_gt (de_len rfl T.m_len (de_sub_ (de_var (pv 7)) (de_int pe_int))) (de_int pe_int))))) (dss_one (ds_ret (de_var (pv 5)))) (dss_nil))
      (dss_cons (ds_if (dt_eq hr.units (de_var (pv 2)) (de_int pe_int)) (dss_one (ds_asg (de_sub_ (de_var (pv 1)) (de_fnH h_draw (hr.mono (by decide)) rfl tk (da_cons (de_var (pv 0)) (da_cons (de_len rfl T.m_len (de_var (pv 1))) (da_nil))))) (dg_setI (de_sub_ (de_var (pv 7)) (de_fnH h_draw (hr.mono (by decide)) rfl tk (da_cons (de_var (pv 0)) (da_cons (de_len rfl T.m_len (de_var (pv 7))) (da_nil))))) (de_fnH h_draw (hr.mono (by decide)) rfl tk (da_cons (de_var (pv 0)) (da_cons (de_len rfl T.m_len (de_sub_ (de_var (pv 7)) (de_int pe_int))) (da_nil)))) (pg_sub (de_sub_ (de_var (pv 7)) (de_fnH h_draw (hr.mono (by decide)) rfl tk (da_cons (de_var (pv 0)) (da_cons (de_len rfl T.m_len (de_var (pv 7))) (da_nil))))) (de_fnH h_draw (hr.mono (by decide)) rfl tk (da_cons (de_var (pv 0)) (da_cons (de_len rfl T.m_len (de_sub_ (de_var (pv 7)) (de_int pe_int))) (da_nil)))) set_list)))) (dss_nil))
      (dss_cons (ds_if (PW.pt (pw_and' (dt_eq hr.units (de_var (pv 2)) (de_int pe_int)) (pw_and1 (dt_lt (de_len rfl T.m_len (de_var (pv 7))) (de_int pe_int))))) (dss_one (ds_set (i := 7) (de_add (de_var (pv 7)) (de_lst (da_cons (de_list true rfl T.m_list (de_sub_ (de_var (pv 7)) (de_fnH h_draw (hr.mono (by decide)) rfl tk (da_cons (de_var (pv 0)) (da_cons (de_len rfl T.m_len (de_var (pv 7))) (da_nil)))))) (da_nil)))) sc_rows.nd)) (dss_nil))
      (dss_one (ds_ret (de_fnH h_mixed (hr.mono (by decide)) rfl tk (da_cons (de_var (pv 0)) (da_cons (de_var (pv 7)) (da_nil)))))))))))))))))
theorem sc_l_held : FnScope ["_law_rows_here", "_law_found", "_law_row", "_law_word"] ["_law_rows_here"] (defScope s_l_held) := ⟨rfl, rfl, rfl, by decide +kernel, rfl, by decide +kernel, by decide +kernel⟩
theorem has_l_held (T : Txt K C mg)  {f : Addr} {fd : FuncData} (F : Fun K "_law_held" "_law_held" s_l_held f fd) (m : mg "_law_held" = some (.ref f)) (b : Binds K fd ["_law_rows_here"] []) (kb : (fun _ => True) fd) :
    Has P w K mg base "_law_held" 1 ["_law_rows_here"] S_l_held10 (fun _ => True) := by
  refine ⟨f, fd, m, F.kp, b, kb, fun_deep (T := t_l_held) (k := 0) F sc_l_held ?_ (fun cdv A outer s H E hr => ?_) rd_l_held10⟩
  · intro ds μ Q E h; first | (obtain ⟨rfl, _⟩ := h; rfl; done) | (obtain ⟨_, rfl, _⟩ := h; rfl; done) | (obtain ⟨_, _, rfl, _⟩ := h; rfl; done) | (obtain ⟨_, _, _, rfl, _⟩ := h; rfl; done) | (obtain ⟨_, _, _, _, rfl, _⟩ := h; rfl; done) | (obtain ⟨_, _, _, _, _, rfl, _⟩ := h; rfl; done) | (obtain ⟨_, _, _, _, _, _, rfl, _⟩ := h; rfl; done) | (obtain ⟨_, _, _, _, _, _, _, rfl, _⟩ := h; rfl; done) | (obtain ⟨_, _, _, _, _, _, _, _, rfl, _⟩ := h; rfl; done) | (obtain ⟨_, _, _, _, _, _, _, _, _, rfl, _⟩ := h; rfl; done) | (rcases h with ⟨_, rfl | rfl, _⟩ <;> rfl) | (rcases h with ⟨_, _, rfl | rfl, _⟩ <;> rfl) | (rcases h with h | h <;> first | (obtain ⟨rfl, _⟩ := h; rfl; done) | (obtain ⟨_, rfl, _⟩ := h; rfl; done) | (obtain ⟨_, _, rfl, _⟩ := h; rfl; done) | (obtain ⟨_, _, _, rfl, _⟩ := h; rfl; done) | (obtain ⟨_, _, _, _, rfl, _⟩ := h; rfl; done) | (obtain ⟨_, _, _, _, _, rfl, _⟩ := h; rfl; done) | (obtain ⟨_, _, _, _, _, _, rfl, _⟩ := h; rfl; done) | (obtain ⟨_, _, _, _, _, _, _, rfl, _⟩ := h; rfl; done) | (obtain ⟨_, _, _, _, _, _, _, _, rfl, _⟩ := h; rfl; done) | (obtain ⟨_, _, _, _, _, _, _, _, _, rfl, _⟩ := h; rfl; done) | (rcases h with ⟨_, rfl | rfl, _⟩ <;> rfl))
  · have tk := takes_of (X := cxOf (L2.CX P w) P w K mg base ["_law_rows_here", "_law_found", "_law_row", "_law_word"] "_law_held" (defScope s_l_held) f cdv A outer s H E) rfl rfl rfl rfl
    have hp := passes_of (X := cxOf (L2.CX P w) P w K mg base ["_law_rows_here", "_law_found", "_law_row", "_law_word"] "_law_held" (defScope s_l_held) f cdv A outer s H E) rfl
    exact dss_cons (ds_set (i := 1) (de_lst (da_nil)) sc_l_held.nd)
      (dss_cons (ds_for hp rfl (di_any (de_var (pv 0))) (dg_name (pg_name (i := 2) sc_l_held.nd rfl (by first | exact Or.inl rfl | exact Or.inr rfl))) (dss_one (ds_set (i := 1) (de_add (de_var (pv 1)) (de_lc (fz := true) (own := [("_law_word", 3)]) rfl sc_l_held.nd (di_any (de_var (pv 2))) (blkOk_by (N := ["_law_rows_here", "_law_found", "_law_row", "_law_word"]) (sc := defScope s_l_held) (own := [("_law_word", 3)]) (by decide +kernel)) (ct_name (by decide)) (fun _ _ _ _ _ => pg_name (i := 3) sc_l_held.nd rfl (by first | exact Or.inl rfl | exact Or.inr rfl)) (fun _ _ _ _ _ => dts_one (dt_notin (de_var (pv 3)) (de_var (pv 1)))) (fun _ _ _ _ _ => de_var (pv 3)))) sc_l_held.nd)))
      (dss_one (ds_ret (de_sortSet true hr.units rfl T.m_sorted rfl rfl T.m_set (de_var (pv 1))))))
theorem sc_l_signs11 : FnScope ["_law_signs_here"] [] (defScope s_l_signs11) := ⟨rfl, rfl, rfl, by decide +kernel, rfl, by decide +kernel, by decide +kernel⟩
theorem has_l_signs11 (T : Txt K C mg)  {f : Addr} {fd : FuncData} (F : Fun K "_law_signs" "_law_signs" s_l_signs11 f fd) (m : mg "_law_signs" = some (.ref f)) (b : Binds K fd [] []) (kb : (fun _ => True) fd) :
    Has P w K mg base "_law_signs" 1 [] S_l_signs11 (fun _ => True) := by
  refine ⟨f, fd, m, F.kp, b, kb, fun_deep (T := t_l_signs11) (k := 0) F sc_l_signs11 ?_ (fun cdv A outer s H E hr => ?_) rd_l_signs11⟩
  · intro ds μ Q E h; first | (obtain ⟨rfl, _⟩ := h; rfl; done) | (obtain ⟨_, rfl, _⟩ := h; rfl; done) | (obtain ⟨_, _, rfl, _⟩ := h; rfl; done) | (obtain ⟨_, _, _, rfl, _⟩ := h; rfl; done) | (obtain ⟨_, _, _, _, rfl, _⟩ := h; rfl; done) | (obtain ⟨_, _, _, _, _, rfl, _⟩ := h; rfl; done) | (obtain ⟨_, _, _, _, _, _, rfl, _⟩ := h; rfl; done) | (obtain ⟨_, _, _, _, _, _, _, rfl, _⟩ := h; rfl; done) | (obtain ⟨_, _, _, _, _, _, _, _, rfl, _⟩ := h; rfl; done) | (obtain ⟨_, _, _, _, _, _, _, _, _, rfl, _⟩ := h; rfl; done) | (rcases h with ⟨_, rfl | rfl, _⟩ <;> rfl) | (rcases h with ⟨_, _, rfl | rfl, _⟩ <;> rfl) | (rcases h with h | h <;> first | (obtain ⟨rfl, _⟩ := h; rfl; done) | (obtain ⟨_, rfl, _⟩ := h; rfl; done) | (obtain ⟨_, _, rfl, _⟩ := h; rfl; done) | (obtain ⟨_, _, _, rfl, _⟩ := h; rfl; done) | (obtain ⟨_, _, _, _, rfl, _⟩ := h; rfl; done) | (obtain ⟨_, _, _, _, _, rfl, _⟩ := h; rfl; done) | (obtain ⟨_, _, _, _, _, _, rfl, _⟩ := h; rfl; done) | (obtain ⟨_, _, _, _, _, _, _, rfl, _⟩ := h; rfl; done) | (obtain ⟨_, _, _, _, _, _, _, _, rfl, _⟩ := h; rfl; done) | (obtain ⟨_, _, _, _, _, _, _, _, _, rfl, _⟩ := h; rfl; done) | (rcases h with ⟨_, rfl | rfl, _⟩ <;> rfl))
  · have tk := takes_of (X := cxOf (L2.CX P w) P w K mg base ["_law_signs_here"] "_law_signs" (defScope s_l_signs11) f cdv A outer s H E) rfl rfl rfl rfl
    have hp := passes_of (X := cxOf (L2.CX P w) P w K mg base ["_law_signs_here"] "_law_signs" (defScope s_l_signs11) f cdv A outer s H E) rfl
    exact dss_cons (ds_set (i := 0) (de_str pe_str) sc_l_signs11.nd)
      (dss_one (ds_ret (de_add (de_var (pv 0)) (de_str pe_str))))
theorem sc_l_spoiled11 : FnScope ["_law_state", "_law_word", "_law_signs_here", "_law_sign", "_law_spot", "_law_plan", "_law_mark", "_law_words", "_law_k"] ["_law_state", "_law_word"] (defScope s_l_spoiled11) := ⟨rfl, rfl, rfl, by decide +kernel, rfl, by decide +kernel, by decide +kernel⟩
theorem has_l_spoiled11 (T : Txt K C mg) (h_draw : Has P w K mg base "_law_draw" 1 ["_law_state", "_law_size"] S_draw (fun _ => True)) (h_l_signs11 : Has P w K mg base "_law_signs" 1 [] S_l_signs11 (fun _ => True)) {f : Addr} {fd : FuncData} (F : Fun K "_law_spoiled" "_law_spoiled" s_l_spoiled11 f fd) (m : mg "_law_spoiled" = some (.ref f)) (b : Binds K fd ["_law_state", "_law_word"] []) (kb : (fun _ => True) fd) :
    Has P w K mg base "_law_spoiled" 2 ["_law_state", "_law_word"] S_l_spoiled11 (fun _ => True) := by
  refine ⟨f, fd, m, F.kp, b, kb, fun_deep (T := t_l_spoiled11) (k := 1) F sc_l_spoiled11 ?_ (fun cdv A outer s H E hr => ?_) rd_l_spoiled11⟩
  · intro ds μ Q E h; first | (obtain ⟨rfl, _⟩ := h; rfl; done) | (obtain ⟨_, rfl, _⟩ := h; rfl; done) | (obtain ⟨_, _, rfl, _⟩ := h; rfl; done) | (obtain ⟨_, _, _, rfl, _⟩ := h; rfl; done) | (obtain ⟨_, _, _, _, rfl, _⟩ := h; rfl; done) | (obtain ⟨_, _, _, _, _, rfl, _⟩ := h; rfl; done) | (obtain ⟨_, _, _, _, _, _, rfl, _⟩ := h; rfl; done) | (obtain ⟨_, _, _, _, _, _, _, rfl, _⟩ := h; rfl; done) | (obtain ⟨_, _, _, _, _, _, _, _, rfl, _⟩ := h; rfl; done) | (obtain ⟨_, _, _, _, _, _, _, _, _, rfl, _⟩ := h; rfl; done) | (rcases h with ⟨_, rfl | rfl, _⟩ <;> rfl) | (rcases h with ⟨_, _, rfl | rfl, _⟩ <;> rfl) | (rcases h with h | h <;> first | (obtain ⟨rfl, _⟩ := h; rfl; done) | (obtain ⟨_, rfl, _⟩ := h; rfl; done) | (obtain ⟨_, _, rfl, _⟩ := h; rfl; done) | (obtain ⟨_, _, _, rfl, _⟩ := h; rfl; done) | (obtain ⟨_, _, _, _, rfl, _⟩ := h; rfl; done) | (obtain ⟨_, _, _, _, _, rfl, _⟩ := h; rfl; done) | (obtain ⟨_, _, _, _, _, _, rfl, _⟩ := h; rfl; done) | (obtain ⟨_, _, _, _, _, _, _, rfl, _⟩ := h; rfl; done) | (obtain ⟨_, _, _, _, _, _, _, _, rfl, _⟩ := h; rfl; done) | (obtain ⟨_, _, _, _, _, _, _, _, _, rfl, _⟩ := h; rfl; done) | (rcases h with ⟨_, rfl | rfl, _⟩ <;> rfl))
  · have tk := takes_of (X := cxOf (L2.CX P w) P w K mg base ["_law_state", "_law_word", "_law_signs_here", "_law_sign", "_law_spot", "_law_plan", "_law_mark", "_law_words", "_law_k"] "_law_spoiled" (defScope s_l_spoiled11) f cdv A outer s H E) rfl rfl rfl rfl
    have hp := passes_of (X := cxOf (L2.CX P w) P w K mg base ["_law_state", "_law_word", "_law_signs_here", "_law_sign", "_law_spot", "_law_plan", "_law_mark", "_law_words", "_law_k"] "_law_spoiled" (defScope s_l_spoiled11) f cdv A outer s H E) rfl
    exact dss_cons (ds_set (i := 2) (de_add (de_c0H h_l_signs11 (hr.mono (by decide)) rfl tk) (de_str pe_str)) sc_l_spoiled11.nd)
      (dss_cons (ds_set (i := 3) (de_sub_ (de_var (pv 2)) (de_fnH h_draw (hr.mono (by decide)) rfl tk (da_cons (de_var (pv 0)) (da_cons (de_len rfl T.m_len (de_var (pv 2))) (da_nil))))) sc_l_spoiled11.nd)
      (dss_cons (ds_set (i := 4) (de_fnH h_draw (hr.mono (by decide)) rfl tk (da_cons (de_var (pv 0)) (da_cons (de_add (de_len rfl T.m_len (de_var (pv 1))) (de_int pe_int)) (da_nil)))) sc_l_spoiled11.nd)
      (dss_cons (ds_set (i := 5) (de_fnH h_draw (hr.mono (by decide)) rfl tk (da_cons (de_var (pv 0)) (da_cons (de_int pe_int) (da_nil)))) sc_l_spoiled11.nd)
      (dss_cons (ds_if (dt_lt (de_var (pv 5)) (de_int pe_int)) (dss_one (ds_ret (de_add (de_add (de_slice true (de_var (pv 1)) do_none (do_some (de_var (pv 4)))) (de_sub_ (de_lst (da_cons (de_str pe_str) (da_cons (de_var (pv 3)) (da_cons (de_var (pv 3)) (da_nil))))) (de_var (pv 5)))) (de_slice true (de_var (pv 1)) (do_some (de_add (de_var (pv 4)) (de_sub_ (de_lst (da_cons (de_int pe_int) (da_cons (de_int pe_int) (da_cons (de_int pe_int) (da_nil))))) (de_var (pv 5))))) do_none)))) (dss_nil))
      (dss_cons (ds_set (i := 6) (de_sub_ (de_lst (da_cons (de_str pe_str) (da_cons (de_str pe_str) (da_nil)))) (de_fnH h_draw (hr.mono (by decide)) rfl tk (da_cons (de_var (pv 0)) (da_cons (de_int pe_int) (da_nil))))) sc_l_spoiled11.nd)
      (dss_cons (ds_set (i := 7) (de_split false (de_var (pv 1)) (de_var (pv 6))) sc_l_spoiled11.nd)
      (dss_cons (ds_set (i := 8) (de_fnH h_draw (hr.mono (by decide)) rfl tk (da_cons (de_var (pv 0)) (da_cons (de_len rfl T.m_len (de_var (pv 7))) (da_nil)))) sc_l_spoiled11.nd)
      (dss_cons (ds_if (dt_eq hr.units (de_var (pv 5)) (de_int pe_int)) (dss_one (ds_asg (de_sub_ (de_lst (da_cons (de_str pe_str) (da_cons (de_str pe_str) (da_cons (de_str pe_str) (da_cons (de_str pe_str) (da_cons (de_str pe_str) (da_cons (de_str pe_str) (da_cons (de_str pe_str) (da_cons (de_str pe_str) (da_cons (de_str pe_str) (da_nil))))))))))) (de_fnH h_draw (hr.mono (by decide)) rfl tk (da_cons (de_var (pv 0)) (da_cons (de_int pe_int) (da_nil))))) (dg_setI (de_var (pv 7)) (de_var (pv 8)) (pg_sub (de_var (pv 7)) (de_var (pv 8)) set_list)))) (dss_nil))
      (dss_cons (ds_if (dt_eq hr.units (de_var (pv 5)) (de_int pe_int)) (dss_one (ds_set (i := 7) (de_add (de_slice true (de_var (pv 7)) do_none (do_some (de_var (pv 8)))) (de_slice true (de_var (pv 7)) (do_some (de_add (de_var (pv 8)) (de_int pe_int))) do_none)) sc_l_spoiled11.nd)) (dss_nil))
      (dss_cons (ds_if (dt_eq hr.units (de_var (pv 5)) (de_int pe_int)) (dss_one (ds_set (i := 7) (de_add (de_slice true (de_var (pv 7)) do_none (do_some (de_add (de_var (pv 8)) (de_int pe_int)))) (de_slice true (de_var (pv 7)) (do_some (de_var (pv 8))) do_none)) sc_l_spoiled11.nd)) (dss_nil))
      (dss_cons (ds_if (dt_eq hr.units (de_var (pv 5)) (de_int pe_int)) (dss_one (ds_set (i := 7) (de_add (de_slice true (de_var (pv 7)) do_none (do_some (de_var (pv 8)))) (de_revA true (de_slice true (de_var (pv 7)) (do_some (de_var (pv 8))) do_none))) sc_l_spoiled11.nd)) (dss_nil))
      (dss_one (ds_ret (de_join (de_var (pv 6)) (de_var (pv 7))))))))))))))))
theorem sc_l_parsed11 : FnScope ["_law_word", "_law_rows_here", "_law_row", "_law_one", "_law_part"] ["_law_word"] (defScope s_l_parsed11) := ⟨rfl, rfl, rfl, by decide +kernel, rfl, by decide +kernel, by decide +kernel⟩
theorem has_l_parsed11 (T : Txt K C mg)  {f : Addr} {fd : FuncData} (F : Fun K "_law_parsed" "_law_parsed" s_l_parsed11 f fd) (m : mg "_law_parsed" = some (.ref f)) (b : Binds K fd ["_law_word"] []) (kb : (fun _ => True) fd) :
    Has P w K mg base "_law_parsed" 1 ["_law_word"] S_l_parsed11 (fun _ => True) := by
  refine ⟨f, fd, m, F.kp, b, kb, fun_deep (T := t_l_parsed11) (k := 0) F sc_l_parsed11 ?_ (fun cdv A outer s H E hr => ?_) rd_l_parsed11⟩
  · intro ds μ Q E h; first | (obtain ⟨rfl, _⟩ := h; rfl; done) | (obtain ⟨_, rfl, _⟩ := h; rfl; done) | (obtain ⟨_, _, rfl, _⟩ := h; rfl; done) | (obtain ⟨_, _, _, rfl, _⟩ := h; rfl; done) | (obtain ⟨_, _, _, _, rfl, _⟩ := h; rfl; done) | (obtain ⟨_, _, _, _, _, rfl, _⟩ := h; rfl; done) | (obtain ⟨_, _, _, _, _, _, rfl, _⟩ := h; rfl; done) | (obtain ⟨_, _, _, _, _, _, _, rfl, _⟩ := h; rfl; done) | (obtain ⟨_, _, _, _, _, _, _, _, rfl, _⟩ := h; rfl; done) | (obtain ⟨_, _, _, _, _, _, _, _, _, rfl, _⟩ := h; rfl; done) | (rcases h with ⟨_, rfl | rfl, _⟩ <;> rfl) | (rcases h with ⟨_, _, rfl | rfl, _⟩ <;> rfl) | (rcases h with h | h <;> first | (obtain ⟨rfl, _⟩ := h; rfl; done) | (obtain ⟨_, rfl, _⟩ := h; rfl; done) | (obtain ⟨_, _, rfl, _⟩ := h; rfl; done) | (obtain ⟨_, _, _, rfl, _⟩ := h; rfl; done) | (obtain ⟨_, _, _, _, rfl, _⟩ := h; rfl; done) | (obtain ⟨_, _, _, _, _, rfl, _⟩ := h; rfl; done) | (obtain ⟨_, _, _, _, _, _, rfl, _⟩ := h; rfl; done) | (obtain ⟨_, _, _, _, _, _, _, rfl, _⟩ := h; rfl; done) | (obtain ⟨_, _, _, _, _, _, _, _, rfl, _⟩ := h; rfl; done) | (obtain ⟨_, _, _, _, _, _, _, _, _, rfl, _⟩ := h; rfl; done) | (rcases h with ⟨_, rfl | rfl, _⟩ <;> rfl))
  · have tk := takes_of (X := cxOf (L2.CX P w) P w K mg base ["_law_word", "_law_rows_here", "_law_row", "_law_one", "_law_part"] "_law_parsed" (defScope s_l_parsed11) f cdv A outer s H E) rfl rfl rfl rfl
    have hp := passes_of (X := cxOf (L2.CX P w) P w K mg base ["_law_word", "_law_rows_here", "_law_row", "_law_one", "_law_part"] "_law_parsed" (defScope s_l_parsed11) f cdv A outer s H E) rfl
    exact dss_cons (ds_setLc (i := 1) (fz := true) (own := [("_law_part", 4)]) rfl sc_l_parsed11.nd rfl rfl (sw_true rfl rfl rfl (by decide +kernel)) (di_any (de_split true (de_var (pv 0)) (de_str pe_str))) (blkOk_by (N := ["_law_word", "_law_rows_here", "_law_row", "_law_one", "_law_part"]) (sc := defScope s_l_parsed11) (own := [("_law_part", 4)]) (by decide +kernel)) (ct_name (by decide)) (fun _ _ _ _ _ => pg_name (i := 4) sc_l_parsed11.nd rfl (by first | exact Or.inl rfl | exact Or.inr rfl)) (fun _ _ _ _ _ => dts_nil) (fun _ _ _ _ _ => de_split true (de_var (pv 4)) (de_str pe_str)))
      (dss_cons (ds_for hp rfl (di_any (de_var (pv 1))) (dg_name (pg_name (i := 2) sc_l_parsed11.nd rfl (by first | exact Or.inl rfl | exact Or.inr rfl))) (dss_one (ds_for hp rfl (di_any (de_var (pv 2))) (dg_name (pg_name (i := 3) sc_l_parsed11.nd rfl (by first | exact Or.inl rfl | exact Or.inr rfl))) (dss_one (ds_if (PW.pt (pw_or' (dt_eq hr.units (de_var (pv 3)) (de_str pe_str)) (pw_or' (dt_in (de_str pe_str) (de_var (pv 3))) (pw_or1 (dt_in (de_str pe_str) (de_var (pv 3))))))) (dss_one (ds_ret (de_lst (da_nil)))) (dss_nil))))))
      (dss_one (ds_ret (de_var (pv 1)))))
theorem sc_l_told11 : FnScope ["_law_word", "_law_table", "e"] ["_law_word"] (defScope s_l_told11) := ⟨rfl, rfl, rfl, by decide +kernel, rfl, by decide +kernel, by decide +kernel⟩
theorem has_l_told11 (T : Txt K C mg) (h_T_str : HasM P w K mg base C.T "__str__" 1 ["self"] (S_T_str C)) (h_T_lines : HasP P w K mg base C.T "lines" 1 ["self"] (S_T_lines C)) (h_T_read : HasCk P w K mg base C.T "read" 7 ["cls", "text"] (S_T_read C) (kb_T_read K)) {f : Addr} {fd : FuncData} (F : Fun K "_law_told" "_law_told" s_l_told11 f fd) (m : mg "_law_told" = some (.ref f)) (b : Binds K fd ["_law_word"] []) (kb : (fun _ => True) fd) :
    Has P w K mg base "_law_told" 8 ["_law_word"] (S_l_told11 C) (fun _ => True) := by
  refine ⟨f, fd, m, F.kp, b, kb, fun_deep (T := (t_l_told11 C)) (k := 7) F sc_l_told11 ?_ (fun cdv A outer s H E hr => ?_) (rd_l_told11 (C := C))⟩
  · intro ds μ Q E h; first | (obtain ⟨rfl, _⟩ := h; rfl; done) | (obtain ⟨_, rfl, _⟩ := h; rfl; done) | (obtain ⟨_, _, rfl, _⟩ := h; rfl; done) | (obtain ⟨_, _, _, rfl, _⟩ := h; rfl; done) | (obtain ⟨_, _, _, _, rfl, _⟩ := h; rfl; done) | (obtain ⟨_, _, _, _, _, rfl, _⟩ := h; rfl; done) | (obtain ⟨_, _, _, _, _, _, rfl, _⟩ := h; rfl; done) | (obtain ⟨_, _, _, _, _, _, _, rfl, _⟩ := h; rfl; done) | (obtain ⟨_, _, _, _, _, _, _, _, rfl, _⟩ := h; rfl; done) | (obtain ⟨_, _, _, _, _, _, _, _, _, rfl, _⟩ := h; rfl; done) | (rcases h with ⟨_, rfl | rfl, _⟩ <;> rfl) | (rcases h with ⟨_, _, rfl | rfl, _⟩ <;> rfl) | (rcases h with h | h <;> first | (obtain ⟨rfl, _⟩ := h; rfl; done) | (obtain ⟨_, rfl, _⟩ := h; rfl; done) | (obtain ⟨_, _, rfl, _⟩ := h; rfl; done) | (obtain ⟨_, _, _, rfl, _⟩ := h; rfl; done) | (obtain ⟨_, _, _, _, rfl, _⟩ := h; rfl; done) | (obtain ⟨_, _, _, _, _, rfl, _⟩ := h; rfl; done) | (obtain ⟨_, _, _, _, _, _, rfl, _⟩ := h; rfl; done) | (obtain ⟨_, _, _, _, _, _, _, rfl, _⟩ := h; rfl; done) | (obtain ⟨_, _, _, _, _, _, _, _, rfl, _⟩ := h; rfl; done) | (obtain ⟨_, _, _, _, _, _, _, _, _, rfl, _⟩ := h; rfl; done) | (rcases h with ⟨_, rfl | rfl, _⟩ <;> rfl))
  · have tk := takes_of (X := cxOf (L2.CX P w) P w K mg base ["_law_word", "_law_table", "e"] "_law_told" (defScope s_l_told11) f cdv A outer s H E) rfl rfl rfl rfl
    have hp := passes_of (X := cxOf (L2.CX P w) P w K mg base ["_law_word", "_law_table", "e"] "_law_told" (defScope s_l_told11) f cdv A outer s H E) rfl
    exact dss_one (ds_try T.em rfl rfl sc_l_told11.nd tk (fun W pn xe tk hp => dss_cons (ds_set (i := 1) (de_cmethH h_T_read.i (hr.mono (by decide)) tk (de_cls rfl T.gc_Table) (da_cons (de_var (pv 0)) (da_nil))) sc_l_told11.nd)
      (dss_one (ds_ret (de_lst (da_cons (de_str pe_str) (da_cons (de_propH T.c_Table h_T_lines (hr.mono (by decide)) (de_var (pv 1))) (da_cons (de_strOwn h_T_str (hr.mono (by decide)) rfl T.m_str (de_var (pv 1))) (da_nil)))))))) (dms_named (i := 2) rfl T.g_BadText (fun a oe dd l pn hz hv => dss_one (ds_ret (de_lst (da_cons (de_str pe_str) (da_cons (de_xf T.x_BadText_text hz hv (de_var (pv 2))) (da_cons (de_isX (l := l) T.ix_BadText hz hv rfl T.m_isinstance (de_var (pv 2)) rfl T.g_Base) (da_nil))))))) (dms_named (i := 2) rfl T.g_BadCount (fun a oe dd l pn hz hv => dss_one (ds_ret (de_lst (da_cons (de_str pe_str) (da_cons (de_xf T.x_BadCount_count hz hv (de_var (pv 2))) (da_nil)))))) (dms_named (i := 2) rfl T.g_BadName (fun a oe dd l pn hz hv => dss_one (ds_ret (de_lst (da_cons (de_str pe_str) (da_cons (de_xf T.x_BadName_name hz hv (de_var (pv 2))) (da_nil)))))) dms_nil))))
theorem sc_l_due11 : FnScope ["_law_word", "_law_rows_here", "e"] ["_law_word"] (defScope s_l_due11) := ⟨rfl, rfl, rfl, by decide +kernel, rfl, by decide +kernel, by decide +kernel⟩
theorem has_l_due11 (T : Txt K C mg) (h_T_initL : HasI P w K mg base C.T "Table" 5 ["self", "lines"] (S_T_initL C)) (h_T_lines : HasP P w K mg base C.T "lines" 1 ["self"] (S_T_lines C)) (h_l_parsed11 : Has P w K mg base "_law_parsed" 1 ["_law_word"] S_l_parsed11 (fun _ => True)) {f : Addr} {fd : FuncData} (F : Fun K "_law_due" "_law_due" s_l_due11 f fd) (m : mg "_law_due" = some (.ref f)) (b : Binds K fd ["_law_word"] []) (kb : (fun _ => True) fd) :
    Has P w K mg base "_law_due" 7 ["_law_word"] (S_l_due11 C) (fun _ => True) := by
  refine ⟨f, fd, m, F.kp, b, kb, fun_deep (T := (t_l_due11 C)) (k := 6) F sc_l_due11 ?_ (fun cdv A outer s H E hr => ?_) (rd_l_due11 (C := C))⟩
  · intro ds μ Q E h; first | (obtain ⟨rfl, _⟩ := h; rfl; done) | (obtain ⟨_, rfl, _⟩ := h; rfl; done) | (obtain ⟨_, _, rfl, _⟩ := h; rfl; done) | (obtain ⟨_, _, _, rfl, _⟩ := h; rfl; done) | (obtain ⟨_, _, _, _, rfl, _⟩ := h; rfl; done) | (obtain ⟨_, _, _, _, _, rfl, _⟩ := h; rfl; done) | (obtain ⟨_, _, _, _, _, _, rfl, _⟩ := h; rfl; done) | (obtain ⟨_, _, _, _, _, _, _, rfl, _⟩ := h; rfl; done) | (obtain ⟨_, _, _, _, _, _, _, _, rfl, _⟩ := h; rfl; done) | (obtain ⟨_, _, _, _, _, _, _, _, _, rfl, _⟩ := h; rfl; done) | (rcases h with ⟨_, rfl | rfl, _⟩ <;> rfl) | (rcases h with ⟨_, _, rfl | rfl, _⟩ <;> rfl) | (rcases h with h | h <;> first | (obtain ⟨rfl, _⟩ := h; rfl; done) | (obtain ⟨_, rfl, _⟩ := h; rfl; done) | (obtain ⟨_, _, rfl, _⟩ := h; rfl; done) | (obtain ⟨_, _, _, rfl, _⟩ := h; rfl; done) | (obtain ⟨_, _, _, _, rfl, _⟩ := h; rfl; done) | (obtain ⟨_, _, _, _, _, rfl, _⟩ := h; rfl; done) | (obtain ⟨_, _, _, _, _, _, rfl, _⟩ := h; rfl; done) | (obtain ⟨_, _, _, _, _, _, _, rfl, _⟩ := h; rfl; done) | (obtain ⟨_, _, _, _, _, _, _, _, rfl, _⟩ := h; rfl; done) | (obtain ⟨_, _, _, _, _, _, _, _, _, rfl, _⟩ := h; rfl; done) | (rcases h with ⟨_, rfl | rfl, _⟩ <;> rfl))
  · have tk := takes_of (X := cxOf (L2.CX P w) P w K mg base ["_law_word", "_law_rows_here", "e"] "_law_due" (defScope s_l_due11) f cdv A outer s H E) rfl rfl rfl rfl
    have hp := passes_of (X := cxOf (L2.CX P w) P w K mg base ["_law_word", "_law_rows_here", "e"] "_law_due" (defScope s_l_due11) f cdv A outer s H E) rfl
    exact dss_cons (ds_set (i := 1) (de_fnH h_l_parsed11 (hr.mono (by decide)) rfl tk (da_cons (de_var (pv 0)) (da_nil))) sc_l_due11.nd)
      (dss_cons (ds_if (dt_eq hr.units (de_var (pv 1)) (de_lst (da_nil))) (dss_one (ds_ret (de_lst (da_cons (de_str pe_str) (da_cons (de_var (pv 0)) (da_cons (de_bl pe_bl) (da_nil))))))) (dss_nil))
      (dss_one (ds_try T.em rfl rfl sc_l_due11.nd tk (fun W pn xe tk hp => dss_one (ds_ret (de_lst (da_cons (de_str pe_str) (da_cons (de_propH T.c_Table h_T_lines (hr.mono (by decide)) (de_makeH h_T_initL (hr.mono (by decide)) rfl tk (da_cons (de_var (pv 1)) (da_nil)))) (da_cons (de_var (pv 0)) (da_nil))))))) (dms_named (i := 2) rfl T.g_BadCount (fun a oe dd l pn hz hv => dss_one (ds_ret (de_lst (da_cons (de_str pe_str) (da_cons (de_xf T.x_BadCount_count hz hv (de_var (pv 2))) (da_nil)))))) (dms_named (i := 2) rfl T.g_BadName (fun a oe dd l pn hz hv => dss_one (ds_ret (de_lst (da_cons (de_str pe_str) (da_cons (de_xf T.x_BadName_name hz hv (de_var (pv 2))) (da_nil)))))) dms_nil)))))
theorem sc_law : FnScope ["_law_script", "_law_state", "_law_rows_here", "_law_word", "_law_turn", "_law_due_here", "_law_row"] ["_law_script"] (defScope s_law) := ⟨rfl, rfl, rfl, by decide +kernel, rfl, by decide +kernel, by decide +kernel⟩
theorem ok_law (T : Txt K C mg) (h_T_eq : HasQ P w K mg base C.T 1 ["self", "other"] (S_T_eqX C)) (h_T_initL : HasI P w K mg base C.T "Table" 5 ["self", "lines"] (S_T_initL C)) (h_T_str : HasM P w K mg base C.T "__str__" 1 ["self"] (S_T_str C)) (h_T_read : HasCk P w K mg base C.T "read" 7 ["cls", "text"] (S_T_read C) (kb_T_read K)) (h_draw : Has P w K mg base "_law_draw" 1 ["_law_state", "_law_size"] S_draw (fun _ => True)) (h_l_due11 : Has P w K mg base "_law_due" 7 ["_law_word"] (S_l_due11 C) (fun _ => True)) (h_names : Has P w K mg base "_law_names" 2 ["_law_state", "_law_count"] S_names (fun _ => True)) (h_l_parsed11 : Has P w K mg base "_law_parsed" 1 ["_law_word"] S_l_parsed11 (fun _ => True)) (h_rows : Has P w K mg base "_law_rows" 8 ["_law_state", "_law_names_here"] S_rows (fun _ => True)) (h_l_spoiled11 : Has P w K mg base "_law_spoiled" 2 ["_law_state", "_law_word"] S_l_spoiled11 (fun _ => True)) (h_start : Has P w K mg base "_law_start" 1 ["_law_script"] S_start (fun _ => True)) (h_l_told11 : Has P w K mg base "_law_told" 8 ["_law_word"] (S_l_told11 C) (fun _ => True)) {f : Addr} {fd : FuncData} (F : Fun K "law" "law" s_law f fd) : FnOk P w K mg base (L2.CX P w) 9 f fd ["_law_script"] (spOf K S_law) := by
  refine fun_deep (T := (t_law C)) (k := 8) F sc_law ?_ (fun cdv A outer s H E hr => ?_) (rd_law (C := C))
  · intro ds μ Q E h; first | (obtain ⟨rfl, _⟩ := h; rfl; done) | (obtain ⟨_, rfl, _⟩ := h; rfl; done) | (obtain ⟨_, _, rfl, _⟩ := h; rfl; done) | (obtain ⟨_, _, _, rfl, _⟩ := h; rfl; done) | (obtain ⟨_, _, _, _, rfl, _⟩ := h; rfl; done) | (obtain ⟨_, _, _, _, _, rfl, _⟩ := h; rfl; done) | (obtain ⟨_, _, _, _, _, _, rfl, _⟩ := h; rfl; done) | (obtain ⟨_, _, _, _, _, _, _, rfl, _⟩ := h; rfl; done) | (obtain ⟨_, _, _, _, _, _, _, _, rfl, _⟩ := h; rfl; done) | (obtain ⟨_, _, _, _, _, _, _, _, _, rfl, _⟩ := h; rfl; done) | (rcases h with ⟨_, rfl | rfl, _⟩ <;> rfl) | (rcases h with ⟨_, _, rfl | rfl, _⟩ <;> rfl) | (rcases h with h | h <;> first | (obtain ⟨rfl, _⟩ := h; rfl; done) | (obtain ⟨_, rfl, _⟩ := h; rfl; done) | (obtain ⟨_, _, rfl, _⟩ := h; rfl; done) | (obtain ⟨_, _, _, rfl, _⟩ := h; rfl; done) | (obtain ⟨_, _, _, _, rfl, _⟩ := h; rfl; done) | (obtain ⟨_, _, _, _, _, rfl, _⟩ := h; rfl; done) | (obtain ⟨_, _, _, _, _, _, rfl, _⟩ := h; rfl; done) | (obtain ⟨_, _, _, _, _, _, _, rfl, _⟩ := h; rfl; done) | (obtain ⟨_, _, _, _, _, _, _, _, rfl, _⟩ := h; rfl; done) | (obtain ⟨_, _, _, _, _, _, _, _, _, rfl, _⟩ := h; rfl; done) | (rcases h with ⟨_, rfl | rfl, _⟩ <;> rfl))
  · have tk := takes_of (X := cxOf (L2.CX P w) P w K mg base ["_law_script", "_law_state", "_law_rows_here", "_law_word", "_law_turn", "_law_due_here", "_law_row"] "law" (defScope s_law) f cdv A outer s H E) rfl rfl rfl rfl
    have hp := passes_of (X := cxOf (L2.CX P w) P w K mg base ["_law_script", "_law_state", "_law_rows_here", "_law_word", "_law_turn", "_law_due_here", "_law_row"] "law" (defScope s_law) f cdv A outer s H E) rfl
    exact dss_cons (ds_set (i := 1) (de_fnH h_start (hr.mono (by decide)) rfl tk (da_cons (de_var (pv 0)) (da_nil))) sc_law.nd)
      (dss_cons (ds_set (i := 2) (de_fnH h_rows (hr.mono (by decide)) rfl tk (da_cons (de_var (pv 1)) (da_cons (de_fnH h_names (hr.mono (by decide)) rfl tk (da_cons (de_var (pv 1)) (da_cons (de_add (de_int pe_int) (de_fnH h_draw (hr.mono (by decide)) rfl tk (da_cons (de_var (pv 1)) (da_cons (de_int pe_int) (da_nil))))) (da_nil)))) (da_nil)))) sc_law.nd)
      (dss_cons (ds_setLc (i := 2) (fz := true) (own := [("_law_row", 6)]) rfl sc_law.nd rfl rfl (sw_true rfl rfl rfl (by decide +kernel)) (di_any (de_slice true (de_var (pv 2)) do_none (do_some (de_int pe_int)))) (blkOk_by (N := ["_law_script", "_law_state", "_law_rows_here", "_law_word", "_law_turn", "_law_due_here", "_law_row"]) (sc := defScope s_law) (own := [("_law_row", 6)]) (by decide +kernel)) (ct_name (by decide)) (fun _ _ _ _ _ => pg_name (i := 6) sc_law.nd rfl (by first | exact Or.inl rfl | exact Or.inr rfl)) (fun _ _ _ _ _ => dts_nil) (fun _ _ _ _ _ => de_slice true (de_var (pv 6)) do_none (do_some (de_int pe_int))))
      (dss_cons (ds_set (i := 3) (de_join (de_str pe_str) (de_lc (fz := true) (own := [("_law_row", 6)]) rfl sc_law.nd (di_any (de_var (pv 2))) (blkOk_by (N := ["_law_script", "_law_state", "_law_rows_here", "_law_word", "_law_turn", "_law_due_here", "_law_row"]) (sc := defScope s_law) (own := [("_law_row", 6)]) (by decide +kernel)) (ct_name (by decide)) (fun _ _ _ _ _ => pg_name (i := 6) sc_law.nd rfl (by first | exact Or.inl rfl | exact Or.inr rfl)) (fun _ _ _ _ _ => dts_nil) (fun _ _ _ _ _ => de_join (de_str pe_str) (de_var (pv 6))))) sc_law.nd)
      (dss_cons (ds_if (dt_ne hr.units (de_strOwn h_T_str (hr.mono (by decide)) rfl T.m_str (de_makeH h_T_initL (hr.mono (by decide)) rfl tk (da_cons (de_var (pv 2)) (da_nil)))) (de_var (pv 3))) (dss_one (ds_ret (de_bl pe_bl))) (dss_nil))
      (dss_cons (ds_for hp rfl (di_range1 rfl T.m_range (de_sub_ (de_lst (da_cons (de_int pe_int) (da_cons (de_int pe_int) (da_cons (de_int pe_int) (da_cons (de_int pe_int) (da_nil)))))) (de_fnH h_draw (hr.mono (by decide)) rfl tk (da_cons (de_var (pv 1)) (da_cons (de_int pe_int) (da_nil)))))) (dg_name (pg_name (i := 4) sc_law.nd rfl (by first | exact Or.inl rfl | exact Or.inr rfl))) (dss_one (ds_set (i := 3) (de_fnH h_l_spoiled11 (hr.mono (by decide)) rfl tk (da_cons (de_var (pv 1)) (da_cons (de_var (pv 3)) (da_nil)))) sc_law.nd)))
      (dss_cons (ds_set (i := 5) (de_fnH h_l_due11 (hr.mono (by decide)) rfl tk (da_cons (de_var (pv 3)) (da_nil))) sc_law.nd)
      (dss_cons (ds_if (PW.pt (pw_or' (dt_ne hr.units (de_fnH h_l_told11 (hr.mono (by decide)) rfl tk (da_cons (de_var (pv 3)) (da_nil))) (de_var (pv 5))) (pw_or1 (dt_ne hr.units (de_fnH h_l_told11 (hr.mono (by decide)) rfl tk (da_cons (de_var (pv 3)) (da_nil))) (de_var (pv 5)))))) (dss_one (ds_ret (de_bl pe_bl))) (dss_nil))
      (dss_one (ds_ret (de_or (de_ne hr.units (de_sub_ (de_var (pv 5)) (de_int pe_int)) (de_str pe_str)) (de_one (de_ownEqH h_T_eq (hr.mono (by decide)) (de_cmethK0 h_T_read (hr.mono (by decide)) kb_T_read_text tk (de_cls rfl T.gc_Table) (dk_cons (de_var (pv 3)) (dk_nil))) (de_makeH h_T_initL (hr.mono (by decide)) rfl tk (da_cons (de_fnH h_l_parsed11 (hr.mono (by decide)) rfl tk (da_cons (de_var (pv 3)) (da_nil))) (da_nil)))))))))))))))
end
def FA : List He.Fa := ([.free "len", .free "abs", .free "int", .free "list", .free "tuple", .free "range", .free "isinstance", .free "str", .free "sorted", .free "set", .str "LETTERS" "abcdefghijklmnopqrstuvwxyz", .str "DIGITS" "0123456789", .int "LONGEST" 6, .int "MOST_OUTCOMES" 6, .int "MOST_LINES" 8, .cls "Table", .noat "Table" "columns", .noat "Table" "names", .noat "Table" "rows", .glo "Table"] : List He.Fa) ++ ([.glo "BadCount", .glo "BadName", .glo "BadText", .glo "ChooserError", .glo "law", .noat "BadCount" "count", .noat "BadName" "name", .noat "BadText" "text", .glo "valid_name", .glo "check_number", .glo "check_length", .glo "check_lines", .glo "exchanged", .glo "is_word", .mkr "Table", .meth "Table" "__eq__", .meth "Table" "__str__", .glo "_law_start", .glo "_law_draw", .glo "_law_names"] : List He.Fa) ++ ([.glo "_law_order", .glo "_law_flipped", .glo "_law_mixed", .glo "_law_smooth", .glo "_law_any_tree", .glo "_law_ways", .glo "_law_tree_rows", .glo "_law_no_tree", .glo "_law_rows", .glo "_law_held", .glo "_law_signs", .glo "_law_spoiled", .glo "_law_parsed", .glo "_law_told", .glo "_law_due"] : List He.Fa)
def EX : List (PySem.W.Frag → Bool) := [isiB "Table", xfldB .BadCount "count", xfldB .BadName "name", xfldB .BadText "text", isxB .BadText "ChooserError", emB [.BadName, .BadCount, .BadText, .BadCell], baseB, errB .BadCount, errB .BadName, errB .BadText, cmB "Table" "read", propB "Table" "lines"]
def FN : List DefA := ([⟨.meth "BadCount" "__init__", "BadCount.__init__", s_BadCount__init_⟩, ⟨.meth "BadName" "__init__", "BadName.__init__", s_BadName__init_⟩, ⟨.meth "BadText" "__init__", "BadText.__init__", s_BadText__init_⟩, ⟨.glo "valid_name", "valid_name", s_valid_name⟩, ⟨.glo "check_number", "check_number", s_check_number⟩, ⟨.glo "check_length", "check_length", s_check_length⟩, ⟨.glo "check_lines", "check_lines", s_check_linesL⟩, ⟨.glo "exchanged", "exchanged", s_exchanged⟩, ⟨.glo "is_word", "is_word", s_is_word⟩, ⟨.meth "Table" "__init__", "Table.__init__", s_T_initL⟩, ⟨.prop "Table" "read", "Table.read", s_T_read⟩, ⟨.prop "Table" "lines", "Table.lines", s_T_lines⟩, ⟨.meth "Table" "__eq__", "Table.__eq__", s_T_eq⟩, ⟨.meth "Table" "__str__", "Table.__str__", s_T_str⟩, ⟨.glo "_law_start", "_law_start", s_start⟩, ⟨.glo "_law_draw", "_law_draw", s_draw⟩, ⟨.glo "_law_names", "_law_names", s_names⟩, ⟨.glo "_law_order", "_law_order", s_order⟩, ⟨.glo "_law_flipped", "_law_flipped", s_flipped⟩, ⟨.glo "_law_mixed", "_law_mixed", s_mixed⟩] : List DefA) ++ ([⟨.glo "_law_smooth", "_law_smooth", s_smooth⟩, ⟨.glo "_law_any_tree", "_law_any_tree", s_any_tree⟩, ⟨.glo "_law_ways", "_law_ways", s_ways⟩, ⟨.glo "_law_tree_rows", "_law_tree_rows", s_tree_rows⟩, ⟨.glo "_law_no_tree", "_law_no_tree", s_no_tree⟩, ⟨.glo "_law_rows", "_law_rows", s_rows⟩, ⟨.glo "_law_held", "_law_held", s_l_held⟩, ⟨.glo "_law_signs", "_law_signs", s_l_signs11⟩, ⟨.glo "_law_spoiled", "_law_spoiled", s_l_spoiled11⟩, ⟨.glo "_law_parsed", "_law_parsed", s_l_parsed11⟩, ⟨.glo "_law_told", "_law_told", s_l_told11⟩, ⟨.glo "_law_due", "_law_due", s_l_due11⟩, ⟨.glo "law", "law", s_law⟩] : List DefA)
theorem facts {P : Program} {w : World} {K : PySem.W.Frag} {h : Heap} {mg : Str → Option Value} {f : Addr} (X : K.In h) (G : h.Ns mainGlobals mg) (hfa : mg ("law" : Str) = some (.ref f)) (c : SaysA FA EX FN K) :
    ∃ fd : FuncData, (∀ (s : Shared) (v : Value), BindsTo s fd ⟨[v], []⟩ [("_law_script", v)]) ∧ ∀ base : Heap, K.In base → base.Ns mainGlobals mg → FnOk P w K mg base (L2.CX P w) 9 f fd ["_law_script"] (spOf K S_law) := by
  let C : Cs := { T := He.ga K "Table" }
  have T : Txt K C mg := ⟨He.free_ok X G (c.fact 0 (f := .free "len") rfl), He.free_ok X G (c.fact 1 (f := .free "abs") rfl), He.free_ok X G (c.fact 2 (f := .free "int") rfl), He.free_ok X G (c.fact 3 (f := .free "list") rfl), He.free_ok X G (c.fact 4 (f := .free "tuple") rfl), He.free_ok X G (c.fact 5 (f := .free "range") rfl), He.free_ok X G (c.fact 6 (f := .free "isinstance") rfl), He.free_ok X G (c.fact 7 (f := .free "str") rfl), He.free_ok X G (c.fact 8 (f := .free "sorted") rfl), He.free_ok X G (c.fact 9 (f := .free "set") rfl), He.str_ok X G (c.fact 10 (f := .str "LETTERS" "abcdefghijklmnopqrstuvwxyz") rfl), He.str_ok X G (c.fact 11 (f := .str "DIGITS" "0123456789") rfl), He.int_ok X G (c.fact 12 (f := .int "LONGEST" 6) rfl), He.int_ok X G (c.fact 13 (f := .int "MOST_OUTCOMES" 6) rfl), He.int_ok X G (c.fact 14 (f := .int "MOST_LINES" 8) rfl), He.cls_ok (c.fact 15 (f := .cls "Table") rfl), He.noat_ok (c.fact 16 (f := .noat "Table" "columns") rfl), He.noat_ok (c.fact 17 (f := .noat "Table" "names") rfl), He.noat_ok (c.fact 18 (f := .noat "Table" "rows") rfl), isiB_ok (c.ex_ 0 (f := isiB "Table") rfl), He.glo_ok X G (c.fact 19 (f := .glo "Table") rfl), He.glo_ok X G (c.fact 20 (f := .glo "BadCount") rfl), He.glo_ok X G (c.fact 21 (f := .glo "BadName") rfl), He.glo_ok X G (c.fact 22 (f := .glo "BadText") rfl), xfldB_ok (c.ex_ 1 (f := xfldB .BadCount "count") rfl), xfldB_ok (c.ex_ 2 (f := xfldB .BadName "name") rfl), xfldB_ok (c.ex_ 3 (f := xfldB .BadText "text") rfl), isxB_ok (c.ex_ 4 (f := isxB .BadText "ChooserError") rfl), emB_ok (c.ex_ 5 (f := emB [.BadName, .BadCount, .BadText, .BadCell]) rfl), baseB_ok (c.ex_ 6 (f := baseB) rfl), He.glo_ok X G (c.fact 23 (f := .glo "ChooserError") rfl)⟩
  have e := hfa.symm.trans (He.glo_ok X G (c.fact 24 (f := .glo "law") rfl))
  cases e
  obtain ⟨fd0, F0⟩ := c.def_ 0 (d := ⟨.meth "BadCount" "__init__", "BadCount.__init__", s_BadCount__init_⟩) rfl
  have b0 := F0.binds (ps := ["self", "count"]) fun _ _ _ _ _ _ us hl => match us, hl with | [_, _], _ => rfl
  obtain ⟨fd1, F1⟩ := c.def_ 1 (d := ⟨.meth "BadName" "__init__", "BadName.__init__", s_BadName__init_⟩) rfl
  have b1 := F1.binds (ps := ["self", "name"]) fun _ _ _ _ _ _ us hl => match us, hl with | [_, _], _ => rfl
  obtain ⟨fd2, F2⟩ := c.def_ 2 (d := ⟨.meth "BadText" "__init__", "BadText.__init__", s_BadText__init_⟩) rfl
  have b2 := F2.binds (ps := ["self", "text"]) fun _ _ _ _ _ _ us hl => match us, hl with | [_, _], _ => rfl
  obtain ⟨fd3, F3⟩ := c.def_ 3 (d := ⟨.glo "valid_name", "valid_name", s_valid_name⟩) rfl
  have b3 := F3.binds (ps := ["text"]) fun _ _ _ _ _ _ us hl => match us, hl with | [_], _ => rfl
  obtain ⟨fd4, F4⟩ := c.def_ 4 (d := ⟨.glo "check_number", "check_number", s_check_number⟩) rfl
  have b4 := F4.binds (ps := ["count"]) fun _ _ _ _ _ _ us hl => match us, hl with | [_], _ => rfl
  obtain ⟨fd5, F5⟩ := c.def_ 5 (d := ⟨.glo "check_length", "check_length", s_check_length⟩) rfl
  have b5 := F5.binds (ps := ["count"]) fun _ _ _ _ _ _ us hl => match us, hl with | [_], _ => rfl
  obtain ⟨fd6, F6⟩ := c.def_ 6 (d := ⟨.glo "check_lines", "check_lines", s_check_linesL⟩) rfl
  have b6 := F6.binds (ps := ["rows"]) fun _ _ _ _ _ _ us hl => match us, hl with | [_], _ => rfl
  obtain ⟨fd7, F7⟩ := c.def_ 7 (d := ⟨.glo "exchanged", "exchanged", s_exchanged⟩) rfl
  have b7 := F7.binds (ps := ["rows"]) fun _ _ _ _ _ _ us hl => match us, hl with | [_], _ => rfl
  obtain ⟨fd8, F8⟩ := c.def_ 8 (d := ⟨.glo "is_word", "is_word", s_is_word⟩) rfl
  have b8 := F8.binds (ps := ["text"]) fun _ _ _ _ _ _ us hl => match us, hl with | [_], _ => rfl
  obtain ⟨fd9, F9⟩ := c.def_ 9 (d := ⟨.meth "Table" "__init__", "Table.__init__", s_T_initL⟩) rfl
  have b9 := F9.binds (ps := ["self", "lines"]) fun _ _ _ _ _ _ us hl => match us, hl with | [_, _], _ => rfl
  obtain ⟨fd10, F10⟩ := c.def_ 10 (d := ⟨.prop "Table" "read", "Table.read", s_T_read⟩) rfl
  have b10 := F10.binds (ps := ["cls", "text"]) fun _ _ _ _ _ _ us hl => match us, hl with | [_, _], _ => rfl
  obtain ⟨fd11, F11⟩ := c.def_ 11 (d := ⟨.prop "Table" "lines", "Table.lines", s_T_lines⟩) rfl
  have b11 := F11.binds (ps := ["self"]) fun _ _ _ _ _ _ us hl => match us, hl with | [_], _ => rfl
  obtain ⟨fd12, F12⟩ := c.def_ 12 (d := ⟨.meth "Table" "__eq__", "Table.__eq__", s_T_eq⟩) rfl
  have b12 := F12.binds (ps := ["self", "other"]) fun _ _ _ _ _ _ us hl => match us, hl with | [_, _], _ => rfl
  obtain ⟨fd13, F13⟩ := c.def_ 13 (d := ⟨.meth "Table" "__str__", "Table.__str__", s_T_str⟩) rfl
  have b13 := F13.binds (ps := ["self"]) fun _ _ _ _ _ _ us hl => match us, hl with | [_], _ => rfl
  obtain ⟨fd14, F14⟩ := c.def_ 14 (d := ⟨.glo "_law_start", "_law_start", s_start⟩) rfl
  have b14 := F14.binds (ps := ["_law_script"]) fun _ _ _ _ _ _ us hl => match us, hl with | [_], _ => rfl
  obtain ⟨fd15, F15⟩ := c.def_ 15 (d := ⟨.glo "_law_draw", "_law_draw", s_draw⟩) rfl
  have b15 := F15.binds (ps := ["_law_state", "_law_size"]) fun _ _ _ _ _ _ us hl => match us, hl with | [_, _], _ => rfl
  obtain ⟨fd16, F16⟩ := c.def_ 16 (d := ⟨.glo "_law_names", "_law_names", s_names⟩) rfl
  have b16 := F16.binds (ps := ["_law_state", "_law_count"]) fun _ _ _ _ _ _ us hl => match us, hl with | [_, _], _ => rfl
  obtain ⟨fd17, F17⟩ := c.def_ 17 (d := ⟨.glo "_law_order", "_law_order", s_order⟩) rfl
  have b17 := F17.binds (ps := ["_law_state", "_law_items"]) fun _ _ _ _ _ _ us hl => match us, hl with | [_, _], _ => rfl
  obtain ⟨fd18, F18⟩ := c.def_ 18 (d := ⟨.glo "_law_flipped", "_law_flipped", s_flipped⟩) rfl
  have b18 := F18.binds (ps := ["_law_rows_here"]) fun _ _ _ _ _ _ us hl => match us, hl with | [_], _ => rfl
  obtain ⟨fd19, F19⟩ := c.def_ 19 (d := ⟨.glo "_law_mixed", "_law_mixed", s_mixed⟩) rfl
  have b19 := F19.binds (ps := ["_law_state", "_law_rows_here"]) fun _ _ _ _ _ _ us hl => match us, hl with | [_, _], _ => rfl
  obtain ⟨fd20, F20⟩ := c.def_ 20 (d := ⟨.glo "_law_smooth", "_law_smooth", s_smooth⟩) rfl
  have b20 := F20.binds (ps := ["_law_state", "_law_names_here"]) fun _ _ _ _ _ _ us hl => match us, hl with | [_, _], _ => rfl
  obtain ⟨fd21, F21⟩ := c.def_ 21 (d := ⟨.glo "_law_any_tree", "_law_any_tree", s_any_tree⟩) rfl
  have b21 := F21.binds (ps := ["_law_state", "_law_names_here", "_law_side"]) fun _ _ _ _ _ _ us hl => match us, hl with | [_, _, _], _ => rfl
  obtain ⟨fd22, F22⟩ := c.def_ 22 (d := ⟨.glo "_law_ways", "_law_ways", s_ways⟩) rfl
  have b22 := F22.binds (ps := ["_law_sizes"]) fun _ _ _ _ _ _ us hl => match us, hl with | [_], _ => rfl
  obtain ⟨fd23, F23⟩ := c.def_ 23 (d := ⟨.glo "_law_tree_rows", "_law_tree_rows", s_tree_rows⟩) rfl
  have b23 := F23.binds (ps := ["_law_tree"]) fun _ _ _ _ _ _ us hl => match us, hl with | [_], _ => rfl
  obtain ⟨fd24, F24⟩ := c.def_ 24 (d := ⟨.glo "_law_no_tree", "_law_no_tree", s_no_tree⟩) rfl
  have b24 := F24.binds (ps := ["_law_state", "_law_names_here"]) fun _ _ _ _ _ _ us hl => match us, hl with | [_, _], _ => rfl
  obtain ⟨fd25, F25⟩ := c.def_ 25 (d := ⟨.glo "_law_rows", "_law_rows", s_rows⟩) rfl
  have b25 := F25.binds (ps := ["_law_state", "_law_names_here"]) fun _ _ _ _ _ _ us hl => match us, hl with | [_, _], _ => rfl
  obtain ⟨fd26, F26⟩ := c.def_ 26 (d := ⟨.glo "_law_held", "_law_held", s_l_held⟩) rfl
  have b26 := F26.binds (ps := ["_law_rows_here"]) fun _ _ _ _ _ _ us hl => match us, hl with | [_], _ => rfl
  obtain ⟨fd27, F27⟩ := c.def_ 27 (d := ⟨.glo "_law_signs", "_law_signs", s_l_signs11⟩) rfl
  have b27 := F27.binds (ps := []) fun _ _ _ _ _ _ us hl => match us, hl with | [], _ => rfl
  obtain ⟨fd28, F28⟩ := c.def_ 28 (d := ⟨.glo "_law_spoiled", "_law_spoiled", s_l_spoiled11⟩) rfl
  have b28 := F28.binds (ps := ["_law_state", "_law_word"]) fun _ _ _ _ _ _ us hl => match us, hl with | [_, _], _ => rfl
  obtain ⟨fd29, F29⟩ := c.def_ 29 (d := ⟨.glo "_law_parsed", "_law_parsed", s_l_parsed11⟩) rfl
  have b29 := F29.binds (ps := ["_law_word"]) fun _ _ _ _ _ _ us hl => match us, hl with | [_], _ => rfl
  obtain ⟨fd30, F30⟩ := c.def_ 30 (d := ⟨.glo "_law_told", "_law_told", s_l_told11⟩) rfl
  have b30 := F30.binds (ps := ["_law_word"]) fun _ _ _ _ _ _ us hl => match us, hl with | [_], _ => rfl
  obtain ⟨fd31, F31⟩ := c.def_ 31 (d := ⟨.glo "_law_due", "_law_due", s_l_due11⟩) rfl
  have b31 := F31.binds (ps := ["_law_word"]) fun _ _ _ _ _ _ us hl => match us, hl with | [_], _ => rfl
  obtain ⟨fd32, F32⟩ := c.def_ 32 (d := ⟨.glo "law", "law", s_law⟩) rfl
  have b32 := F32.binds (ps := ["_law_script"]) fun _ _ _ _ _ _ us hl => match us, hl with | [_], _ => rfl
  have h_BadCount__init_ : ∀ base, HasE P w K mg base .BadCount "count" := fun base => has_BadCount__init_ (C := C) T  F0 (errB_ok (c.ex_ 7 (f := errB .BadCount) rfl)) b0 (He.noat_ok (c.fact 25 (f := .noat "BadCount" "count") rfl))
  have h_BadName__init_ : ∀ base, HasE P w K mg base .BadName "name" := fun base => has_BadName__init_ (C := C) T  F1 (errB_ok (c.ex_ 8 (f := errB .BadName) rfl)) b1 (He.noat_ok (c.fact 26 (f := .noat "BadName" "name") rfl))
  have h_BadText__init_ : ∀ base, HasE P w K mg base .BadText "text" := fun base => has_BadText__init_ (C := C) T  F2 (errB_ok (c.ex_ 9 (f := errB .BadText) rfl)) b2 (He.noat_ok (c.fact 27 (f := .noat "BadText" "text") rfl))
  have h_valid_name : ∀ base, Has P w K mg base "valid_name" 1 ["text"] S_valid_name (fun _ => True) := fun base => has_valid_name (C := C) T  F3 (He.glo_ok X G (c.fact 28 (f := .glo "valid_name") rfl)) b3 trivial
  have h_check_number : ∀ base, Has P w K mg base "check_number" 3 ["count"] S_check_numberX (fun _ => True) := fun base => has_check_number (C := C) T (h_BadCount__init_ base) F4 (He.glo_ok X G (c.fact 29 (f := .glo "check_number") rfl)) b4 trivial
  have h_check_length : ∀ base, Has P w K mg base "check_length" 3 ["count"] S_check_lengthX (fun _ => True) := fun base => has_check_length (C := C) T (h_BadCount__init_ base) F5 (He.glo_ok X G (c.fact 30 (f := .glo "check_length") rfl)) b5 trivial
  have h_check_linesL : ∀ base, Has P w K mg base "check_lines" 4 ["rows"] S_check_linesL (fun _ => True) := fun base => has_check_linesL (C := C) T (h_BadCount__init_ base) (h_BadName__init_ base) (h_check_length base) (h_valid_name base) F6 (He.glo_ok X G (c.fact 31 (f := .glo "check_lines") rfl)) b6 trivial
  have h_exchanged : ∀ base, Has P w K mg base "exchanged" 1 ["rows"] S_exchanged (fun _ => True) := fun base => has_exchanged (C := C) T  F7 (He.glo_ok X G (c.fact 32 (f := .glo "exchanged") rfl)) b7 trivial
  have h_is_word : ∀ base, Has P w K mg base "is_word" 1 ["text"] S_is_word (fun _ => True) := fun base => has_is_word (C := C) T  F8 (He.glo_ok X G (c.fact 33 (f := .glo "is_word") rfl)) b8 trivial
  have h_T_initL : ∀ base, HasI P w K mg base C.T "Table" 5 ["self", "lines"] (S_T_initL C) := fun base => has_T_initL (C := C) T (h_check_linesL base) (h_check_number base) (h_exchanged base) F9 (He.glo_ok X G (c.fact 19 (f := .glo "Table") rfl)) (He.mkr_ok (c.fact 34 (f := .mkr "Table") rfl)) b9
  obtain ⟨⟨oc10, od10, kV10, dc10, pm10, an10, cd10, ct10, sl10, rfl, lk10, cc10⟩, kp10⟩ := id F10
  have h_T_read : ∀ base, HasCk P w K mg base C.T "read" 7 ["cls", "text"] (S_T_read C) (kb_T_read K) := fun base => has_T_read (C := C) T (h_BadText__init_ base) (h_T_initL base) (h_is_word base) F10 (cmB_ok (c.ex_ 10 (f := cmB "Table" "read") rfl)).1 (cmB_ok (c.ex_ 10 (f := cmB "Table" "read") rfl)).2 b10 (fun s us ws _ h1 h2 => (match us, ws, h1, h2 with | [_], [_], _, _ => .of_eq rfl))
  have h_T_lines : ∀ base, HasP P w K mg base C.T "lines" 1 ["self"] (S_T_lines C) := fun base => has_T_lines (C := C) T  F11 (propB_ok (c.ex_ 11 (f := propB "Table" "lines") rfl)) b11
  have h_T_eq : ∀ base, HasQ P w K mg base C.T 1 ["self", "other"] (S_T_eqX C) := fun base => has_T_eq (C := C) T  F12 (He.meth_ok (c.fact 35 (f := .meth "Table" "__eq__") rfl)).at_ (He.meth_ok (c.fact 35 (f := .meth "Table" "__eq__") rfl)).fn b12
  have h_T_str : ∀ base, HasM P w K mg base C.T "__str__" 1 ["self"] (S_T_str C) := fun base => has_T_str (C := C) T  F13 (He.meth_ok (c.fact 36 (f := .meth "Table" "__str__") rfl)) b13
  have h_start : ∀ base, Has P w K mg base "_law_start" 1 ["_law_script"] S_start (fun _ => True) := fun base => has_start (C := C) T  F14 (He.glo_ok X G (c.fact 37 (f := .glo "_law_start") rfl)) b14 trivial
  have h_draw : ∀ base, Has P w K mg base "_law_draw" 1 ["_law_state", "_law_size"] S_draw (fun _ => True) := fun base => has_draw (C := C) T  F15 (He.glo_ok X G (c.fact 38 (f := .glo "_law_draw") rfl)) b15 trivial
  have h_names : ∀ base, Has P w K mg base "_law_names" 2 ["_law_state", "_law_count"] S_names (fun _ => True) := fun base => has_names (C := C) T (h_draw base) F16 (He.glo_ok X G (c.fact 39 (f := .glo "_law_names") rfl)) b16 trivial
  have h_order : ∀ base, Has P w K mg base "_law_order" 2 ["_law_state", "_law_items"] S_order (fun _ => True) := fun base => has_order (C := C) T (h_draw base) F17 (He.glo_ok X G (c.fact 40 (f := .glo "_law_order") rfl)) b17 trivial
  have h_flipped : ∀ base, Has P w K mg base "_law_flipped" 1 ["_law_rows_here"] S_flipped (fun _ => True) := fun base => has_flipped (C := C) T  F18 (He.glo_ok X G (c.fact 41 (f := .glo "_law_flipped") rfl)) b18 trivial
  have h_mixed : ∀ base, Has P w K mg base "_law_mixed" 3 ["_law_state", "_law_rows_here"] S_mixed (fun _ => True) := fun base => has_mixed (C := C) T (h_flipped base) (h_order base) F19 (He.glo_ok X G (c.fact 42 (f := .glo "_law_mixed") rfl)) b19 trivial
  have h_smooth : ∀ base, Has P w K mg base "_law_smooth" 4 ["_law_state", "_law_names_here"] S_smooth (fun _ => True) := fun base => has_smooth (C := C) T (h_draw base) (h_mixed base) F20 (He.glo_ok X G (c.fact 43 (f := .glo "_law_smooth") rfl)) b20 trivial
  have h_any_tree : ∀ base, Has P w K mg base "_law_any_tree" 7 ["_law_state", "_law_names_here", "_law_side"] (S_any_tree 6) (fun _ => True) := fun base => (has_any_tree (C := C) (by decide) T (has_any_tree (C := C) (by decide) T (has_any_tree (C := C) (by decide) T (has_any_tree (C := C) (by decide) T (has_any_tree (C := C) (by decide) T (has_any_tree (C := C) (by decide) T (has0_any_tree F21 (He.glo_ok X G (c.fact 44 (f := .glo "_law_any_tree") rfl)) b21 trivial) (h_draw base) F21 (He.glo_ok X G (c.fact 44 (f := .glo "_law_any_tree") rfl)) b21 trivial) (h_draw base) F21 (He.glo_ok X G (c.fact 44 (f := .glo "_law_any_tree") rfl)) b21 trivial) (h_draw base) F21 (He.glo_ok X G (c.fact 44 (f := .glo "_law_any_tree") rfl)) b21 trivial) (h_draw base) F21 (He.glo_ok X G (c.fact 44 (f := .glo "_law_any_tree") rfl)) b21 trivial) (h_draw base) F21 (He.glo_ok X G (c.fact 44 (f := .glo "_law_any_tree") rfl)) b21 trivial) (h_draw base) F21 (He.glo_ok X G (c.fact 44 (f := .glo "_law_any_tree") rfl)) b21 trivial)
  have h_ways : ∀ base, Has P w K mg base "_law_ways" 1 ["_law_sizes"] S_ways (fun _ => True) := fun base => has_ways (C := C) T  F22 (He.glo_ok X G (c.fact 45 (f := .glo "_law_ways") rfl)) b22 trivial
  have h_tree_rows : ∀ base, Has P w K mg base "_law_tree_rows" 7 ["_law_tree"] (S_tree_rows 6) (fun _ => True) := fun base => (has_tree_rows (C := C) (by decide) T (has_tree_rows (C := C) (by decide) T (has_tree_rows (C := C) (by decide) T (has_tree_rows (C := C) (by decide) T (has_tree_rows (C := C) (by decide) T (has_tree_rows (C := C) (by decide) T (has0_tree_rows F23 (He.glo_ok X G (c.fact 46 (f := .glo "_law_tree_rows") rfl)) b23 trivial) (h_flipped base) (h_ways base) F23 (He.glo_ok X G (c.fact 46 (f := .glo "_law_tree_rows") rfl)) b23 trivial) (h_flipped base) (h_ways base) F23 (He.glo_ok X G (c.fact 46 (f := .glo "_law_tree_rows") rfl)) b23 trivial) (h_flipped base) (h_ways base) F23 (He.glo_ok X G (c.fact 46 (f := .glo "_law_tree_rows") rfl)) b23 trivial) (h_flipped base) (h_ways base) F23 (He.glo_ok X G (c.fact 46 (f := .glo "_law_tree_rows") rfl)) b23 trivial) (h_flipped base) (h_ways base) F23 (He.glo_ok X G (c.fact 46 (f := .glo "_law_tree_rows") rfl)) b23 trivial) (h_flipped base) (h_ways base) F23 (He.glo_ok X G (c.fact 46 (f := .glo "_law_tree_rows") rfl)) b23 trivial)
  have h_no_tree : ∀ base, Has P w K mg base "_law_no_tree" 2 ["_law_state", "_law_names_here"] S_no_tree (fun _ => True) := fun base => has_no_tree (C := C) T (h_draw base) F24 (He.glo_ok X G (c.fact 47 (f := .glo "_law_no_tree") rfl)) b24 trivial
  have h_rows : ∀ base, Has P w K mg base "_law_rows" 8 ["_law_state", "_law_names_here"] S_rows (fun _ => True) := fun base => has_rows (C := C) T (h_any_tree base) (h_draw base) (h_mixed base) (h_no_tree base) (h_order base) (h_smooth base) (h_tree_rows base) F25 (He.glo_ok X G (c.fact 48 (f := .glo "_law_rows") rfl)) b25 trivial
  have h_l_held : ∀ base, Has P w K mg base "_law_held" 1 ["_law_rows_here"] S_l_held10 (fun _ => True) := fun base => has_l_held (C := C) T  F26 (He.glo_ok X G (c.fact 49 (f := .glo "_law_held") rfl)) b26 trivial
  have h_l_signs11 : ∀ base, Has P w K mg base "_law_signs" 1 [] S_l_signs11 (fun _ => True) := fun base => has_l_signs11 (C := C) T  F27 (He.glo_ok X G (c.fact 50 (f := .glo "_law_signs") rfl)) b27 trivial
  have h_l_spoiled11 : ∀ base, Has P w K mg base "_law_spoiled" 2 ["_law_state", "_law_word"] S_l_spoiled11 (fun _ => True) := fun base => has_l_spoiled11 (C := C) T (h_draw base) (h_l_signs11 base) F28 (He.glo_ok X G (c.fact 51 (f := .glo "_law_spoiled") rfl)) b28 trivial
  have h_l_parsed11 : ∀ base, Has P w K mg base "_law_parsed" 1 ["_law_word"] S_l_parsed11 (fun _ => True) := fun base => has_l_parsed11 (C := C) T  F29 (He.glo_ok X G (c.fact 52 (f := .glo "_law_parsed") rfl)) b29 trivial
  have h_l_told11 : ∀ base, Has P w K mg base "_law_told" 8 ["_law_word"] (S_l_told11 C) (fun _ => True) := fun base => has_l_told11 (C := C) T (h_T_str base) (h_T_lines base) (h_T_read base) F30 (He.glo_ok X G (c.fact 53 (f := .glo "_law_told") rfl)) b30 trivial
  have h_l_due11 : ∀ base, Has P w K mg base "_law_due" 7 ["_law_word"] (S_l_due11 C) (fun _ => True) := fun base => has_l_due11 (C := C) T (h_T_initL base) (h_T_lines base) (h_l_parsed11 base) F31 (He.glo_ok X G (c.fact 54 (f := .glo "_law_due") rfl)) b31 trivial
  obtain ⟨⟨_, _, _, _, _, _, _, _, _, rfl, _, _⟩, _⟩ := id F32
  exact ⟨_, fun s v => .of_eq rfl, fun base _ _ => ok_law (C := C) T (h_T_eq base) (h_T_initL base) (h_T_str base) (h_T_read base) (h_draw base) (h_l_due11 base) (h_names base) (h_l_parsed11 base) (h_rows base) (h_l_spoiled11 base) (h_start base) (h_l_told11 base) F32⟩
abbrev R : PySem.W.OpenRow := PySem.W.OpenLaw.row PySem.Challenge.rw_twochoosers_k11_table_texts
def NM : Names := ⟨[Str.ofString "valid_name", Str.ofString "check_number", Str.ofString "check_length", Str.ofString "check_lines", Str.ofString "exchanged", Str.ofString "is_word", Str.ofString "_law_start", Str.ofString "_law_draw", Str.ofString "_law_names", Str.ofString "_law_order", Str.ofString "_law_flipped", Str.ofString "_law_mixed", Str.ofString "_law_smooth", Str.ofString "_law_any_tree", Str.ofString "_law_ways", Str.ofString "_law_tree_rows", Str.ofString "_law_no_tree", Str.ofString "_law_rows", Str.ofString "_law_held", Str.ofString "_law_signs", Str.ofString "_law_spoiled", Str.ofString "_law_parsed", Str.ofString "_law_told", Str.ofString "_law_due", Str.ofString "law", Str.ofString "Table", Str.ofString "ChooserError", Str.ofString "BadName", Str.ofString "BadCount", Str.ofString "BadText", Str.ofString "BadCell"], [(Str.ofString "BadCount", Str.ofString "__init__"), (Str.ofString "BadName", Str.ofString "__init__"), (Str.ofString "BadText", Str.ofString "__init__"), (Str.ofString "Table", Str.ofString "__init__"), (Str.ofString "Table", Str.ofString "__eq__"), (Str.ofString "Table", Str.ofString "__str__")], [(Str.ofString "Table", Str.ofString "read"), (Str.ofString "Table", Str.ofString "lines")]⟩
abbrev hk : PySem.W.Hook := hookA NM FA EX FN
def ob (s : PySem.W.SharedT) : AlA := obsAG NM FA EX FN (HandSHeadRun.getT s)
theorem ob_eq (s : PySem.W.SharedT) : ob s = hk.obs s.abs := obsAG_eq (HandSHeadRun.getT_eq s)
def loose : List Str := ([Str.ofString "_wall", Str.ofString "ChooserError", Str.ofString "BadName", Str.ofString "BadCount", Str.ofString "BadText", Str.ofString "BadCell", Str.ofString "LETTERS", Str.ofString "DIGITS", Str.ofString "LONGEST", Str.ofString "valid_name", Str.ofString "is_integer", Str.ofString "MOST_OUTCOMES", Str.ofString "check_number", Str.ofString "MOST_LINES", Str.ofString "check_length", Str.ofString "check_lines", Str.ofString "exchanged", Str.ofString "is_word", Str.ofString "Table", Str.ofString "_law_start"] : List Str) ++ ([Str.ofString "_law_draw", Str.ofString "_law_names", Str.ofString "_law_signs", Str.ofString "_law_order", Str.ofString "_law_flipped", Str.ofString "_law_smooth", Str.ofString "_law_mixed", Str.ofString "_law_any_tree", Str.ofString "_law_ways", Str.ofString "_law_tree_rows", Str.ofString "_law_no_tree", Str.ofString "_law_rows", Str.ofString "_law_held", Str.ofString "_law_spoiled", Str.ofString "_law_parsed", Str.ofString "_law_told", Str.ofString "_law_due"] : List Str)
theorem run (w : World) : HandSHeadRun.RunEq R (PySem.W.view R.prog [42]) hk ob 9000 loose w := by
  intro os
  kernel_rfl
end K11
open PySem PySem.W PySem.Calls PyProof.Rows
set_option maxRecDepth 100000 in
set_option maxHeartbeats 0 in
theorem PySem.Challenge.cw_twochoosers_k11_table_texts_holds : PySem.Challenge.rw_twochoosers_k11_table_texts.Holds := by
  w_on; o_law
  refine HandSHeadRun.head_any (r := OpenLaw.row PySem.Challenge.rw_twochoosers_k11_table_texts) (q := view (OpenLaw.row PySem.Challenge.rw_twochoosers_k11_table_texts).prog [42]) (H := K11.hk) (ob := K11.ob) (M := 9000) (loose := K11.loose) (d := HandSHeadRun.topDef (OpenLaw.row PySem.Challenge.rw_twochoosers_k11_table_texts).prog 42) (kwd := []) K11.ob_eq
    (by kernel_rfl) (fun s => by kernel_rfl) K11.run (by kernel_rfl) (by kernel_rfl) (by kernel_rfl) (by rfl) (by first | assumption | decide +kernel) (by decide +kernel) ⟨rfl, rfl, rfl, rfl, rfl, by decide +kernel⟩ ?hw ?hc
  case hw => w_witness2
  case hc =>
    refine DV.walk_deepE (l := PySem.Challenge.rw_twochoosers_k11_table_texts) (n := 63) (k := 9) (x := "_law_script") (S := DV.S_law) rfl (by decide) (by kernel_rfl) ?F (fun ns hl => ⟨ns, rfl, hl, rfl, fun _ => rfl⟩)
    intro w mg fa h Y G hmg0
    obtain ⟨K, KX, c⟩ := Y
    have hmg : mg ("law" : PySem.Str) = some (.ref fa) := by
      have e : (HandSHeadRun.topDef (OpenLaw.row PySem.Challenge.rw_twochoosers_k11_table_texts).prog 42).name = ("law" : PySem.Str) := by kernel_rfl
      rw [← e]
      exact hmg0
    obtain ⟨fd, hb, hF⟩ := K11.facts (P := (PySem.Challenge.rw_twochoosers_k11_table_texts).prog) (w := w) KX G hmg c
    exact ⟨K, fd, KX, hb, hF⟩
