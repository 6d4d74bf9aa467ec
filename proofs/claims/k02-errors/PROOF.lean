import PyProof.Rows.All
import Wide.All
import OpenK.AllK
import Wide.FinOn
import HandS.ForMost
import HandS.Exc
import HandS.ExcOwn
import HandS.TryOnly
import HandS.TryMany
import HandS.ExcCtx
import HandS.HotCalls
import HandS.ExcInit
import HandS.WordsExc
import HandS.Walk
import HandS.IsInst
import HandS.Flow
import HandS.Lambda
import HandS.HeadHook1
import HandS.TupAny
import HandS.Style
import HandS.Wide
import HandS.Property
import HandS.Deep
import HandS.SortKw
import KE.SortKeyHeap
import HandS.Keys
import PyProof.P3In
import HandS.SetTxt0
import HandS.SetBool
import HandS.SetKeys
import HandS.More
import HandS.Small
import HandS.Head0
import HandS.Head1
import HandS.Head2
import HandS.ClsMeth
import HandS.ExcField
import HandS.Zip0
import PyProof.TupleOfGen
import HandS.DictComp
import PyProof.Rows.MinMaxN
import HandS.MakeKw
import KE.KEqNest
import PyProof.NeKinds
import PyProof.InstNe
import PyProof.EqKinds
import KE.KEqDict
import HandS.DictTup
import HandS.NoneIn
import KE.KExcIs
import PyProof.WalkInts
import PySem.Challenge.RW_twochoosers_k02_errors
set_option Elab.async false
set_option linter.all false
set_option maxRecDepth 100000
set_option maxHeartbeats 4000000
/-! Deep data over the hand layer: values as trees, mutable objects as cells, and readings that speak of no heap. -/
namespace DV
open PySem L2
inductive D where
  | non | bl (b : Bool) | int (i : Int) | str (x : Str) | ref (l : Nat) | cls (C : Addr)
  | scr (ns : List Int) | lst (xs : List D) | tup (xs : List D) | dct (kvs : List (Key × D)) | ins (C : Addr) (fs : List (Str × D))
inductive EK where
  | BadName | DuplicateName | UnknownName | BadCount | BadText | BadSet | BadCell | BadSide | BadLine | BadWish | UnlikeOutcomes | IsFirm | IsSmooth | NotFirm | NothingToUndo
  deriving DecidableEq
def EK.nm : EK → Str
  | .BadName => "BadName"
  | .DuplicateName => "DuplicateName"
  | .UnknownName => "UnknownName"
  | .BadCount => "BadCount"
  | .BadText => "BadText"
  | .BadSet => "BadSet"
  | .BadCell => "BadCell"
  | .BadSide => "BadSide"
  | .BadLine => "BadLine"
  | .BadWish => "BadWish"
  | .UnlikeOutcomes => "UnlikeOutcomes"
  | .IsFirm => "IsFirm"
  | .IsSmooth => "IsSmooth"
  | .NotFirm => "NotFirm"
  | .NothingToUndo => "NothingToUndo"
/-- an exception: its class and its own fields -/
abbrev Gam := List (Option D)
inductive Cell where
  | gone | lst (xs : List D) | dct (kvs : List (Key × D)) | ins (C : Addr) (fs : List (Str × D)) | orc (n : Nat × Bool) | exc (dd : Addr) (fs : List (Str × D))
  | dtp (kvs : List (List Key × D))
  | exo (k : EK) (l : Option Nat)
  | xdc (fs : List (Str × D))
abbrev Mu := List Cell
/-- the heap as it is looked at: Hb what is fixed for ever, H all, al the cells' addresses, ph the oracle's inner ones -/
structure Now where
  Hb : Hp
  H : Hp
  al : List Addr
  ph : List Addr
mutual
inductive Rep (K : PySem.W.Frag) (Hb : Hp) (al : List Addr) : V → D → Prop
  | non : Rep K Hb al .non .non
  | bl (b) : Rep K Hb al (.bl b) (.bl b)
  | int (i) : Rep K Hb al (.int i) (.int i)
  | str (x) : Rep K Hb al (.str x) (.str x)
  | ref {l a} : al[l]? = some a → Rep K Hb al (.ref a) (.ref l)
  | cls (C) : Rep K Hb al (.ref C) (.cls C)
  | scr {a ns} : SqL K Hb a (ns.map V.int) → Rep K Hb al (.ref a) (.scr ns)
  | lst {a vs ds} : Hb a = some (.lst vs) → Reps K Hb al vs ds → Rep K Hb al (.ref a) (.lst ds)
  | tup {a vs ds} : Hb a = some (.tup vs) → Reps K Hb al vs ds → Rep K Hb al (.ref a) (.tup ds)
  | dct {a us ks ds} : Rd Hb a (.dK us) → ks = us.map (·.1) → Reps K Hb al (us.map (·.2)) ds → Rep K Hb al (.ref a) (.dct (ks.zip ds))
  | ins {a C dx us ks ds} : Hb a = some (.ins C dx us) → ks = us.map (·.1) → Reps K Hb al (us.map (·.2)) ds → Rep K Hb al (.ref a) (.ins C (ks.zip ds))
inductive Reps (K : PySem.W.Frag) (Hb : Hp) (al : List Addr) : List V → List D → Prop
  | nil : Reps K Hb al [] []
  | cons {v d vs ds} : Rep K Hb al v d → Reps K Hb al vs ds → Reps K Hb al (v :: vs) (d :: ds)
end
theorem nn {α : Type} {x : Option α} {o : α} (h : x = some o) : x ≠ none := by rw [h]; simp
theorem same_rd {H H' : Hp} {a : Addr} {u : HO} (e : Same H H') (h : Rd H a u) : Rd H' a u := h.imp (fun h => e _ _ h) fun ⟨o, h⟩ => ⟨o, e _ _ h⟩
theorem rd_inj {H : Hp} {a : Addr} {us us' : List (Key × V)} (h : Rd H a (.dK us)) (h' : Rd H a (.dK us')) : us = us' := by
  rcases h with h | ⟨o, h⟩ <;> rcases h' with h' | ⟨o', h'⟩ <;> (rw [h] at h'; cases h' <;> rfl)
theorem pre_get {α : Type} {l l' : List α} (p : l <+: l') {i : Nat} {a : α} (h : l[i]? = some a) : l'[i]? = some a := by
  obtain ⟨t, rfl⟩ := p
  have hi : i < l.length := (List.getElem?_eq_some_iff.mp h).1
  rw [List.getElem?_append_left hi]
  exact h
section
variable {K : PySem.W.Frag} {Hb Hb' : Hp} {al al' : List Addr}
/-- what was fixed stays; a dict may have been locked -/
def SameL (H H' : Hp) : Prop := ∀ b o, H b = some o → H' b = some o ∨ ∃ us od, o = .dK us ∧ H' b = some (.frz od (.dK us))
theorem Same.l {H H' : Hp} (s : Same H H') : SameL H H' := fun b o h => .inl (s b o h)
theorem SameL.refl (H : Hp) : SameL H H := fun b o h => .inl h
theorem SameL.ne {H H' : Hp} (s : SameL H H') {b : Addr} {o : HO} (h : H b = some o) (hn : ∀ us, o ≠ .dK us) : H' b = some o := (s b o h).elim id fun ⟨us, _, e, _⟩ => absurd e (hn us)
theorem SameL.trans {H H' H'' : Hp} (s : SameL H H') (t : SameL H' H'') : SameL H H'' := fun b o h => by
  rcases s b o h with h1 | ⟨us, od, e1, h1⟩
  · exact t b o h1
  · exact .inr ⟨us, od, e1, t.ne h1 (fun _ z => nomatch z)⟩
theorem SameL.lst {H H' : Hp} (s : SameL H H') {b : Addr} {vs : List V} (h : H b = some (.lst vs)) : H' b = some (.lst vs) := s.ne h (fun _ z => nomatch z)
theorem SameL.tup {H H' : Hp} (s : SameL H H') {b : Addr} {vs : List V} (h : H b = some (.tup vs)) : H' b = some (.tup vs) := s.ne h (fun _ z => nomatch z)
theorem SameL.rd {H H' : Hp} {a : Addr} {us : List (Key × V)} (s : SameL H H') (h : Rd H a (.dK us)) : Rd H' a (.dK us) := by
  rcases h with h | ⟨o, h⟩
  · rcases s _ _ h with h | ⟨vs, od, e, h⟩
    · exact .inl h
    · cases e; exact .inr ⟨od, h⟩
  · exact .inr ⟨o, s.ne h (fun _ z => nomatch z)⟩
theorem SameL.seq {K : PySem.W.Frag} {H H' : Hp} (s : SameL H H') {a : Addr} {vs : List V} (h : SqL K H a vs) : SqL K H' a vs := by
  rcases h with (h | ⟨o, h⟩) | h
  · exact .inl (.inl (s.lst h))
  · exact .inl (.inr ⟨o, s.ne h (fun _ z => nomatch z)⟩)
  · exact .inr h
mutual
theorem Rep.monoL (s : SameL Hb Hb') (p : al <+: al') : ∀ {v : V} {d : D}, Rep K Hb al v d → Rep K Hb' al' v d
  | _, _, .non => .non
  | _, _, .bl b => .bl b
  | _, _, .int i => .int i
  | _, _, .str x => .str x
  | _, _, .ref h => .ref (pre_get p h)
  | _, _, .cls C => .cls C
  | _, _, .scr h => .scr (s.seq h)
  | _, _, .lst h r => .lst (s.lst h) (Reps.monoL s p r)
  | _, _, .tup h r => .tup (s.tup h) (Reps.monoL s p r)
  | _, _, .dct h e r => .dct (s.rd h) e (Reps.monoL s p r)
  | _, _, .ins h e r => .ins (s.ne h (fun _ z => nomatch z)) e (Reps.monoL s p r)
theorem Reps.monoL (s : SameL Hb Hb') (p : al <+: al') : ∀ {vs : List V} {ds : List D}, Reps K Hb al vs ds → Reps K Hb' al' vs ds
  | _, _, .nil => .nil
  | _, _, .cons h r => .cons (Rep.monoL s p h) (Reps.monoL s p r)
end
theorem Rep.mono (s : Same Hb Hb') (p : al <+: al') {v : V} {d : D} (h : Rep K Hb al v d) : Rep K Hb' al' v d := h.monoL (Same.l s) p
theorem Reps.mono (s : Same Hb Hb') (p : al <+: al') {vs : List V} {ds : List D} (h : Reps K Hb al vs ds) : Reps K Hb' al' vs ds := h.monoL (Same.l s) p
theorem Reps.length : ∀ {vs : List V} {ds : List D}, Reps K Hb al vs ds → vs.length = ds.length
  | _, _, .nil => rfl
  | _, _, .cons _ r => by simp [Reps.length r]
theorem Reps.get : ∀ {vs : List V} {ds : List D} {i : Nat} {d : D}, Reps K Hb al vs ds → ds[i]? = some d → ∃ v, vs[i]? = some v ∧ Rep K Hb al v d
  | _, _, _, _, .nil, e => by simp at e
  | _, _, 0, _, .cons h _, e => by simp at e; subst e; exact ⟨_, rfl, h⟩
  | _, _, i + 1, d, .cons _ t, e => by
    obtain ⟨u, h1, h2⟩ := Reps.get (i := i) (d := d) t (by simpa using e)
    exact ⟨u, by simpa using h1, h2⟩
theorem Reps.append : ∀ {vs us : List V} {ds es : List D}, Reps K Hb al vs ds → Reps K Hb al us es → Reps K Hb al (vs ++ us) (ds ++ es)
  | _, _, _, _, .nil, s => s
  | _, _, _, _, .cons h t, s => .cons h (Reps.append t s)
theorem Reps.set {v : V} {d : D} (h : Rep K Hb al v d) : ∀ {vs : List V} {ds : List D} (i : Nat), Reps K Hb al vs ds → Reps K Hb al (vs.set i v) (ds.set i d)
  | _, _, _, .nil => .nil
  | _, _, 0, .cons _ t => .cons h t
  | _, _, i + 1, .cons q t => .cons q (Reps.set h i t)
theorem Reps.take : ∀ {vs : List V} {ds : List D} (n : Nat), Reps K Hb al vs ds → Reps K Hb al (vs.take n) (ds.take n)
  | _, _, 0, _ => .nil
  | _, _, _ + 1, .nil => .nil
  | _, _, n + 1, .cons r t => .cons r (Reps.take n t)
theorem Reps.drop : ∀ {vs : List V} {ds : List D} (n : Nat), Reps K Hb al vs ds → Reps K Hb al (vs.drop n) (ds.drop n)
  | _, _, 0, r => r
  | _, _, _ + 1, .nil => .nil
  | _, _, n + 1, .cons _ t => Reps.drop n t
theorem Reps.reverse : ∀ {vs : List V} {ds : List D}, Reps K Hb al vs ds → Reps K Hb al vs.reverse ds.reverse
  | _, _, .nil => .nil
  | _, _, .cons h t => by
    rw [List.reverse_cons, List.reverse_cons]
    exact (Reps.reverse t).append (.cons h .nil)
theorem Reps.dropLast : ∀ {vs : List V} {ds : List D}, Reps K Hb al vs ds → Reps K Hb al vs.dropLast ds.dropLast := fun {vs ds} r => by
  rw [List.dropLast_eq_take, List.dropLast_eq_take, r.length]
  exact r.take _
theorem Reps.ints : ∀ {vs : List V} (ns : List Int), Reps K Hb al vs (ns.map D.int) → vs = ns.map V.int
  | _, [], .nil => rfl
  | _, _ :: ns, .cons (.int _) t => by rw [List.map_cons, Reps.ints ns t]
theorem Reps.strs : ∀ {vs : List V} (ns : List Str), Reps K Hb al vs (ns.map D.str) → vs = ns.map V.str
  | _, [], .nil => rfl
  | _, _ :: ns, .cons (.str _) t => by rw [List.map_cons, Reps.strs ns t]
theorem reps_ints (ns : List Int) : Reps K Hb al (ns.map V.int) (ns.map D.int) := by
  induction ns with
  | nil => exact .nil
  | cons n ns ih => exact .cons (.int _) ih
end
/-- the oracle of a law: a list of three, the first a list of ints, the second a list of ints or a place, the third a count -/
def OrcAt (H : Hp) (a : Addr) (ph : List Addr) (n : Nat × Bool) : Prop :=
  ∃ (a0 : Addr) (xs : List Int) (y : V) (k : Int), H a = some (.lst [.ref a0, y, .int k]) ∧ H a0 = some (.lst (xs.map .int)) ∧ xs.length ≤ 100 ∧ 0 ≤ k ∧ k + n.1 ≤ 1099511627776 ∧
    ((n.2 = true ∧ ∃ a1 ys, y = .ref a1 ∧ ph = [a0, a1] ∧ a1 ≠ a0 ∧ (∀ x ∈ xs, 0 ≤ x) ∧ H a1 = some (.lst (ys.map V.int)) ∧ ys ≠ [] ∧ ys.length ≤ 100) ∨
     (n.2 = false ∧ ∃ j : Int, y = .int j ∧ ph = [a0] ∧ 0 ≤ j ∧ j + n.1 ≤ 1099511627776))
/-- the dict of an exception that is a value: none, or a cell of ours -/
def XoAt (al : List Addr) (l : Option Nat) (dxo : Option Addr) : Prop := match l with
  | none => dxo = none
  | some j => ∃ dx, dxo = some dx ∧ al[j]? = some dx
theorem XoAt.pre {al al' : List Addr} (p : al <+: al') {l : Option Nat} {dxo : Option Addr} (h : XoAt al l dxo) : XoAt al' l dxo := by
  cases l with
  | none => exact h
  | some j => obtain ⟨dx, e, h⟩ := h; exact ⟨dx, e, pre_get p h⟩
theorem XoAt.back {al al' : List Addr} (p : al <+: al') {l : Option Nat} {dxo d0 : Option Addr} (h0 : XoAt al l d0) (h : XoAt al' l dxo) : XoAt al l dxo := by
  cases l with
  | none => exact h
  | some j =>
    obtain ⟨dx, rfl, h⟩ := h
    obtain ⟨d, rfl, h0⟩ := h0
    have := pre_get p h0
    rw [h] at this
    cases this
    exact ⟨_, rfl, h0⟩
def CellAt (K : PySem.W.Frag) (n : Now) (a : Addr) : Cell → Prop
  | .gone => True
  | .lst ds => n.Hb a = none ∧ ∃ vs, n.H a = some (.lst vs) ∧ Reps K n.Hb n.al vs ds
  | .dct kvs => n.Hb a = none ∧ ∃ us, n.H a = some (.dK us) ∧ kvs.map (·.1) = us.map (·.1) ∧ Reps K n.Hb n.al (us.map (·.2)) (kvs.map (·.2))
  | .ins C fs => n.Hb a = none ∧ ∃ dx us, n.H a = some (.ins C dx us) ∧ fs.map (·.1) = us.map (·.1) ∧ Reps K n.Hb n.al (us.map (·.2)) (fs.map (·.2))
  | .orc k => n.Hb a = none ∧ OrcAt n.H a n.ph k
  | .dtp kvs => n.Hb a = none ∧ ∃ us, n.H a = some (.dT us) ∧ kvs.map (·.1) = us.map (·.1) ∧ Reps K n.Hb n.al (us.map (·.2)) (kvs.map (·.2))
  | .exo k l => n.Hb a = none ∧ ∃ dxo, n.H a = some (exo a (He.ga K k.nm) dxo) ∧ XoAt n.al l dxo
  | .xdc fs => n.Hb a = none ∧ ∃ us, n.H a = some (exd a us) ∧ (∀ f, us.lookup f = none ↔ fs.lookup f = none) ∧ ∀ f v, us.lookup f = some v → ∃ d, fs.lookup f = some d ∧ Rep K n.Hb n.al v d
  | .exc dd fs => n.Hb a = none ∧ a = dd ∧ ∃ us, n.H a = some (.xd us) ∧ (∀ f, us.lookup f = none ↔ fs.lookup f = none) ∧ ∀ f v, us.lookup f = some v → ∃ d, fs.lookup f = some d ∧ Rep K n.Hb n.al v d
structure SR0 (K : PySem.W.Frag) (n : Now) (μ : Mu) : Prop where
  same : Same n.Hb n.H
  len : n.al.length = μ.length
  nd : n.al.Nodup
  cell : ∀ (i : Nat) a c, n.al[i]? = some a → μ[i]? = some c → CellAt K n a c
  alh : ∀ a ∈ n.al, n.H a ≠ none
  orc1 : ∀ (i j : Nat) a b, μ[i]? = some (.orc a) → μ[j]? = some (.orc b) → i = j
  phb : ∀ b ∈ n.ph, n.Hb b = none ∧ b ∉ n.al ∧ n.H b ≠ none
structure Step (n n' : Now) : Prop where
  same : SameL n.Hb n'.Hb
  pre : n.al <+: n'.al
  newb : ∀ b o, n'.Hb b = some o → n.Hb b ≠ none ∨ n.H b = none ∨ b ∈ n.al ∨ ∃ vs, o = .tup vs ∧ (n.H b = some (.tup vs) ∨ b ∈ n.ph)
  newa : ∀ b ∈ n'.al, b ∈ n.al ∨ n.H b = none
  newp : ∀ b ∈ n'.ph, b ∈ n.ph ∨ n.H b = none
  keep : ∀ b o, n.H b = some o → n.Hb b = none → b ∉ n.al → b ∉ n.ph → n'.H b = some o
  dom : ∀ b, n'.H b = none → n.H b = none
  fixd : ∀ b vs, n.Hb b = some (.tup vs) → n.H b = some (.tup vs) → n'.H b = some (.tup vs)
theorem Step.refl (n : Now) : Step n n := ⟨SameL.refl _, List.prefix_refl _, fun _ _ h => .inl (by rw [h]; simp), fun _ h => .inl h, fun _ h => .inl h, fun _ _ h _ _ _ => h, fun _ h => h, fun _ _ _ h => h⟩
theorem Step.trans {n n1 n2 : Now} (a : Step n n1) (b : Step n1 n2) : Step n n2 where
  same := a.same.trans b.same
  pre := a.pre.trans b.pre
  newb := fun c o h => by
    have old : n1.H c = none → n.H c = none := a.dom c
    rcases b.newb c o h with h3 | h3 | h3 | ⟨vs, rfl, h3⟩
    · cases e : n1.Hb c with
      | none => exact absurd e h3
      | some o' =>
        rcases a.newb c o' e with z | z | z | ⟨vs, rfl, z⟩
        · exact .inl z
        · exact .inr (.inl z)
        · exact .inr (.inr (.inl z))
        · have := b.same.tup e
          rw [h] at this; cases this
          exact .inr (.inr (.inr ⟨vs, rfl, z⟩))
    · exact .inr (.inl (old h3))
    · rcases a.newa c h3 with h | h
      · exact .inr (.inr (.inl h))
      · exact .inr (.inl h)
    · by_cases h0 : n.Hb c = none
      · by_cases ha : c ∈ n.al
        · exact .inr (.inr (.inl ha))
        · by_cases hp : c ∈ n.ph
          · exact .inr (.inr (.inr ⟨vs, rfl, .inr hp⟩))
          · cases e : n.H c with
            | none => exact .inr (.inl rfl)
            | some o =>
              have k := a.keep c o e h0 ha hp
              rcases h3 with h3 | h3
              · rw [k] at h3; cases h3
                exact .inr (.inr (.inr ⟨vs, rfl, .inl rfl⟩))
              · rcases a.newp c h3 with z | z
                · exact absurd z hp
                · rw [e] at z; cases z
      · exact .inl h0
  newa := fun c h => by
    rcases b.newa c h with h | h
    · exact a.newa c h
    · exact .inr (a.dom c h)
  newp := fun c h => by
    rcases b.newp c h with h | h
    · exact a.newp c h
    · exact .inr (a.dom c h)
  keep := fun c o h h0 h1 h2 => by
    have k := a.keep c o h h0 h1 h2
    cases e : n1.Hb c with
    | none =>
      refine b.keep c o k e (fun z => ?_) (fun z => ?_)
      · rcases a.newa c z with z | z
        · exact h1 z
        · rw [z] at h; cases h
      · rcases a.newp c z with z | z
        · exact h2 z
        · rw [z] at h; cases h
    | some o' =>
      rcases a.newb c o' e with z | z | z | ⟨vs, rfl, z | z⟩
      · exact absurd h0 z
      · rw [z] at h; cases h
      · exact absurd z h1
      · rw [z] at h; cases h
        exact b.fixd c vs e k
      · exact absurd z h2
  dom := fun c h => a.dom c (b.dom c h)
  fixd := fun c vs h1 h2 => b.fixd c vs (a.same.tup h1) (a.fixd c vs h1 h2)
theorem Step.rep {K : PySem.W.Frag} {n n' : Now} (s : Step n n') {v : V} {d : D} (h : Rep K n.Hb n.al v d) : Rep K n'.Hb n'.al v d := h.monoL s.same s.pre
theorem Step.reps {K : PySem.W.Frag} {n n' : Now} (s : Step n n') {v : List V} {d : List D} (h : Reps K n.Hb n.al v d) : Reps K n'.Hb n'.al v d := h.monoL s.same s.pre
/-- the slots -/
structure GR (K : PySem.W.Frag) (n : Now) (Γ : Gam) (σ : St) : Prop where
  len : Γ.length = σ.length
  at_ : ∀ (i : Nat) d, Γ[i]? = some (some d) → ∃ v, σ[i]? = some (some v) ∧ Rep K n.Hb n.al v d
theorem GR.step {K : PySem.W.Frag} {n n' : Now} {Γ : Gam} {σ : St} (g : GR K n Γ σ) (s : Step n n') : GR K n' Γ σ :=
  ⟨g.len, fun i d h => let ⟨v, h1, h2⟩ := g.at_ i d h; ⟨v, h1, s.rep h2⟩⟩
theorem GR.set {K : PySem.W.Frag} {n : Now} {Γ : Gam} {σ : St} (g : GR K n Γ σ) {v : V} {d : D} (r : Rep K n.Hb n.al v d) (i : Nat) : GR K n (Γ.set i (some d)) (σ.set i (some v)) := by
  refine ⟨by simp [g.len], fun j e h => ?_⟩
  by_cases hj : i = j
  · subst hj
    by_cases hl : i < Γ.length
    · rw [List.getElem?_set_self hl] at h
      cases h
      exact ⟨v, by rw [List.getElem?_set_self (by rw [← g.len]; exact hl)], r⟩
    · rw [List.getElem?_eq_none (by simp; omega)] at h; cases h
  · rw [List.getElem?_set_ne hj] at h ⊢
    exact g.at_ j e h
/-- the program's errors -/
structure Exn where
  k : EK
  fs : List (Str × D)
def ExR (K : PySem.W.Frag) (A n : Now) (cls : Value) (dd : Option Addr) (x : Exn) : Prop :=
  cls = .ref (He.ga K x.k.nm) ∧ ((dd = none ∧ x.fs = []) ∨ ∃ a us, dd = some a ∧ A.H a = none ∧ (n.Hb a = none ∧ a ∉ n.al ∧ a ∉ n.ph) ∧ n.H a = some (.xd us) ∧ (∀ f, us.lookup f = none ↔ x.fs.lookup f = none) ∧ ∀ f v, us.lookup f = some v → ∃ d, x.fs.lookup f = some d ∧ Rep K n.Hb n.al v d)
theorem ExR.anchor {K : PySem.W.Frag} {A A' n : Now} {cls : Value} {dd : Option Addr} {x : Exn} (h : ExR K A' n cls dd x) (s : Step A A') : ExR K A n cls dd x :=
  ⟨h.1, h.2.imp id fun ⟨a, us, h1, h2, h3⟩ => ⟨a, us, h1, s.dom a h2, h3⟩⟩
abbrev DTE := Gam → Mu → (D → Mu → Prop) → (Exn → Mu → Prop) → Prop
abbrev DTT := Gam → Mu → (Bool → Mu → Prop) → (Exn → Mu → Prop) → Prop
abbrev DTA := Gam → Mu → (List D → Mu → Prop) → (Exn → Mu → Prop) → Prop
structure DEnds where
  nx : Gam → Mu → Prop
  rt : D → Mu → Prop
  bk : Gam → Mu → Prop := fun _ _ => False
  ct : Gam → Mu → Prop := fun _ _ => False
  ex : Exn → Gam → Mu → Prop
abbrev DTS := DEnds → Gam → Mu → Prop
abbrev DSp := List D → Mu → (D → Mu → Prop) → (Exn → Mu → Prop) → Prop
section
variable (K : PySem.W.Frag) (W : WX)
/-- how what is wanted of an exception at the deep level reaches the layer's wish -/
def XLink (n : Now) (Γ : Gam) (σ : St) (Ed : Exn → Mu → Prop) : Prop := ∀ n' cls dd x μ', Step n n' → SR0 K n' μ' → ExR K n n' cls dd x → Ed x μ' → W cls dd σ n'.H
def lift (f : DTE) : TE := fun σ H Q => ∃ n Γ μ Qd Ed, n.H = H ∧ SR0 K n μ ∧ GR K n Γ σ ∧ f Γ μ Qd Ed ∧
  (∀ n' v d μ', Step n n' → SR0 K n' μ' → Rep K n'.Hb n'.al v d → Qd d μ' → Q v n'.H) ∧ XLink K W n Γ σ Ed
def liftT (f : DTT) : TT := fun σ H Q => ∃ n Γ μ Qd Ed, n.H = H ∧ SR0 K n μ ∧ GR K n Γ σ ∧ f Γ μ Qd Ed ∧
  (∀ n' b μ', Step n n' → SR0 K n' μ' → Qd b μ' → Q b n'.H) ∧ XLink K W n Γ σ Ed
def liftA (f : DTA) : TA := fun σ H Q => ∃ n Γ μ Qd Ed, n.H = H ∧ SR0 K n μ ∧ GR K n Γ σ ∧ f Γ μ Qd Ed ∧
  (∀ n' v d μ', Step n n' → SR0 K n' μ' → Reps K n'.Hb n'.al v d → Qd d μ' → Q v n'.H) ∧ XLink K W n Γ σ Ed
structure Links (A : Now) (Dd : DEnds) (Dn : Ends) : Prop where
  nx : ∀ n Γ σ μ, Step A n → SR0 K n μ → GR K n Γ σ → Dd.nx Γ μ → Dn.nx σ n.H
  bk : ∀ n Γ σ μ, Step A n → SR0 K n μ → GR K n Γ σ → Dd.bk Γ μ → Dn.bk σ n.H
  ct : ∀ n Γ σ μ, Step A n → SR0 K n μ → GR K n Γ σ → Dd.ct Γ μ → Dn.ct σ n.H
  rt : ∀ n v d μ, Step A n → SR0 K n μ → Rep K n.Hb n.al v d → Dd.rt d μ → Dn.rt v n.H
  ex : ∀ n Γ σ μ cls dd x, Step A n → SR0 K n μ → GR K n Γ σ → ExR K A n cls dd x → Dd.ex x Γ μ → W cls dd σ n.H
def liftS (T : DTS) : TS := fun Dn σ H => ∃ A n Γ μ Dd, n.H = H ∧ Step A n ∧ SR0 K n μ ∧ GR K n Γ σ ∧ T Dd Γ μ ∧ Links K W A Dd Dn
end
abbrev DE (X : Cx) (W : WX) (e : Expr) (f : DTE) : Prop := PE X e (lift X.K W f)
abbrev DT (X : Cx) (W : WX) (e : Expr) (f : DTT) : Prop := PT X e (liftT X.K W f)
abbrev DA (X : Cx) (W : WX) (es : List Expr) (f : DTA) : Prop := PA X es (liftA X.K W f)
abbrev DS (X : Cx) (W : WX) (st : Stmt) (T : DTS) : Prop := PS X st (liftS X.K W T)
abbrev DSs (X : Cx) (W : WX) (st : List Stmt) (T : DTS) : Prop := PSs X st (liftS X.K W T)
section
variable {X : Cx} {e : Expr} {es : List Expr} {st : Stmt} {sts : List Stmt}
theorem PE.imp {t t' : TE} (h : PE X e t) (hi : ∀ σ H Q, t' σ H Q → t σ H Q) : PE X e t' := ⟨fun pins s σ H Q I q => h.run pins s σ H Q I (hi _ _ _ q)⟩
theorem PT.imp {t t' : TT} (h : PT X e t) (hi : ∀ σ H Q, t' σ H Q → t σ H Q) : PT X e t' := ⟨fun pins s σ H Q I q => h.run pins s σ H Q I (hi _ _ _ q)⟩
theorem PA.imp {t t' : TA} (h : PA X es t) (hi : ∀ σ H Q, t' σ H Q → t σ H Q) : PA X es t' := ⟨fun pos pins s σ H Q I q => h.run pos pins s σ H Q I (hi _ _ _ q)⟩
theorem PS.imp {t t' : TS} (h : PS X st t) (hi : ∀ Dn σ H, t' Dn σ H → t Dn σ H) : PS X st t' := ⟨fun pins s σ H Q I q => h.run pins s σ H Q I (hi _ _ _ q)⟩
theorem PSs.imp {t t' : TS} (h : PSs X sts t) (hi : ∀ Dn σ H, t' Dn σ H → t Dn σ H) : PSs X sts t' := ⟨fun pins s σ H Q I q => h.run pins s σ H Q I (hi _ _ _ q)⟩
end
theorem XLink.step {K : PySem.W.Frag} {W : WX} {n n' : Now} {Γ : Gam} {σ : St} {Ed : Exn → Mu → Prop} (x : XLink K W n Γ σ Ed) (s : Step n n') : XLink K W n' Γ σ Ed :=
  fun n2 cls dd y μ s2 h1 h2 h3 => x n2 cls dd y μ (s.trans s2) h1 (h2.anchor s) h3
end DV
namespace DV
open PySem L2
section
variable {K : PySem.W.Frag} {n n' : Now} {μ : Mu} {a p : Addr} {o : HO}
theorem OrcAt.grow {H H' : Hp} {a : Addr} {ph : List Addr} {k : Nat × Bool} (h : OrcAt H a ph k) (ha : H' a = H a) (hp : ∀ b ∈ ph, H' b = H b) : OrcAt H' a ph k := by
  obtain ⟨a0, xs, y, j, h1, h2, hl, hj, hk, hc⟩ := h
  rcases hc with ⟨hv, a1, ys, e1, e2, e3, e4, e5, e6, e7⟩ | ⟨hv, i, e1, e2, e3, e4⟩
  · subst e2
    exact ⟨a0, xs, y, j, ha.trans h1, (hp a0 (by simp)).trans h2, hl, hj, hk, .inl ⟨hv, a1, ys, e1, rfl, e3, e4, (hp a1 (by simp)).trans e5, e6, e7⟩⟩
  · subst e2
    exact ⟨a0, xs, y, j, ha.trans h1, (hp a0 (by simp)).trans h2, hl, hj, hk, .inr ⟨hv, i, e1, rfl, e3, e4⟩⟩
theorem CellAt.grow {c : Cell} (h : CellAt K n a c) (ha : n'.H a = n.H a) (hb : n.Hb a = none → n'.Hb a = none) (s : Same n.Hb n'.Hb) (pr : n.al <+: n'.al) (hph : n'.ph = n.ph) (hp : ∀ b ∈ n.ph, n'.H b = n.H b) : CellAt K n' a c := by
  cases c with
  | gone => trivial
  | lst ds => obtain ⟨h0, vs, h1, h2⟩ := h; exact ⟨hb h0, vs, ha.trans h1, h2.mono s pr⟩
  | dct kvs => obtain ⟨h0, vs, h1, h2, h3⟩ := h; exact ⟨hb h0, vs, ha.trans h1, h2, h3.mono s pr⟩
  | dtp kvs => obtain ⟨h0, vs, h1, h2, h3⟩ := h; exact ⟨hb h0, vs, ha.trans h1, h2, h3.mono s pr⟩
  | ins C fs => obtain ⟨h0, dx, vs, h1, h2, h3⟩ := h; exact ⟨hb h0, dx, vs, ha.trans h1, h2, h3.mono s pr⟩
  | exo C l => obtain ⟨h0, dxo, h1, h2⟩ := h; exact ⟨hb h0, dxo, ha.trans h1, h2.pre pr⟩
  | orc k => obtain ⟨h0, h1⟩ := h; exact ⟨hb h0, by rw [hph]; exact h1.grow ha hp⟩
  | xdc fs => obtain ⟨h0, us, h1, h2, h3⟩ := h; exact ⟨hb h0, us, ha.trans h1, h2, fun f v e => let ⟨d, e1, e2⟩ := h3 f v e; ⟨d, e1, e2.mono s pr⟩⟩
  | exc dd fs => obtain ⟨h0, he, us, h1, h2, h3⟩ := h; exact ⟨hb h0, he, us, ha.trans h1, h2, fun f v e => let ⟨d, e1, e2⟩ := h3 f v e; ⟨d, e1, e2.mono s pr⟩⟩
theorem SR0.hb (s : SR0 K n μ) (h : n.H p = none) : n.Hb p = none := s.same.free h
theorem SR0.nal (s : SR0 K n μ) (h : n.H p = none) : p ∉ n.al := fun z => s.alh p z h
theorem SR0.nph (s : SR0 K n μ) (h : n.H p = none) : p ∉ n.ph := fun z => (s.phb p z).2.2 h
/-- a new object, fixed for ever -/
def Now.fix (n : Now) (p : Addr) (o : HO) : Now := ⟨upd n.Hb p o, upd n.H p o, n.al, n.ph⟩
/-- a new object beside -/
def Now.more (n : Now) (p : Addr) (o : HO) : Now := ⟨n.Hb, upd n.H p o, n.al, n.ph⟩
/-- a new cell -/
def Now.cell (n : Now) (p : Addr) (o : HO) : Now := ⟨n.Hb, upd n.H p o, n.al ++ [p], n.ph⟩
theorem same_upd {H : Hp} (h : H p = none) : Same H (upd H p o) := fun b u e => by rw [upd_ne (ne_of_none e h)]; exact e
theorem same_upd2 {H H' : Hp} (s : Same H H') : Same (upd H p o) (upd H' p o) := fun b u e => by
  by_cases hb : b = p
  · subst hb; rw [upd_same] at e ⊢; exact e
  · rw [upd_ne hb] at e ⊢; exact s _ _ e
theorem SR0.fix (s : SR0 K n μ) (h : n.H p = none) : SR0 K (n.fix p o) μ := by
  have hb := s.hb h
  refine ⟨same_upd2 s.same, s.len, s.nd, fun i a c e1 e2 => ?_, fun a ha => ?_, s.orc1, fun b hb' => ?_⟩
  · have hne : a ≠ p := fun z => s.nal h (z ▸ List.mem_of_getElem? e1)
    exact (s.cell i a c e1 e2).grow (n' := n.fix p o) (upd_ne hne) (fun z => (upd_ne hne).trans z) (same_upd hb) (List.prefix_refl _) rfl fun b hb' => upd_ne fun z => s.nph h (z ▸ hb')
  · have hne : a ≠ p := fun z => s.nal h (z ▸ ha)
    show upd n.H p o a ≠ none
    rw [upd_ne hne]; exact s.alh a ha
  · have hne : b ≠ p := fun z => s.nph h (z ▸ hb')
    obtain ⟨h1, h2, h3⟩ := s.phb b hb'
    exact ⟨(upd_ne hne).trans h1, h2, by show upd n.H p o b ≠ none; rw [upd_ne hne]; exact h3⟩
theorem Step.fix (s : SR0 K n μ) (h : n.H p = none) : Step n (n.fix p o) where
  same := Same.l (same_upd (s.hb h))
  pre := List.prefix_refl _
  newb := fun b u e => by
    by_cases hb : b = p
    · subst hb; exact .inr (.inl h)
    · exact .inl (nn (o := u) (by rw [← e]; exact (upd_ne hb).symm))
  newa := fun b h => .inl h
  newp := fun b h => .inl h
  keep := fun b u e _ _ _ => by show upd n.H p o b = _; rw [upd_ne (ne_of_none e h)]; exact e
  dom := fun b e => by
    by_cases hb : b = p
    · subst hb; exact h
    · rw [← e]; exact (upd_ne hb).symm
  fixd := fun b vs _ e => by show upd n.H p o b = _; rw [upd_ne (ne_of_none e h)]; exact e
theorem SR0.more (s : SR0 K n μ) (h : n.H p = none) : SR0 K (n.more p o) μ := by
  refine ⟨s.same.trans (same_upd h), s.len, s.nd, fun i a c e1 e2 => ?_, fun a ha => ?_, s.orc1, fun b hb' => ?_⟩
  · have hne : a ≠ p := fun z => s.nal h (z ▸ List.mem_of_getElem? e1)
    exact (s.cell i a c e1 e2).grow (n' := n.more p o) (upd_ne hne) (fun z => z) (Same.refl _) (List.prefix_refl _) rfl fun b hb' => upd_ne fun z => s.nph h (z ▸ hb')
  · have hne : a ≠ p := fun z => s.nal h (z ▸ ha)
    show upd n.H p o a ≠ none
    rw [upd_ne hne]; exact s.alh a ha
  · have hne : b ≠ p := fun z => s.nph h (z ▸ hb')
    obtain ⟨h1, h2, h3⟩ := s.phb b hb'
    exact ⟨h1, h2, by show upd n.H p o b ≠ none; rw [upd_ne hne]; exact h3⟩
theorem Step.more (h : n.H p = none) : Step n (n.more p o) where
  same := SameL.refl _
  pre := List.prefix_refl _
  newb := fun b u e => .inl (nn e)
  newa := fun b h => .inl h
  newp := fun b h => .inl h
  keep := fun b u e _ _ _ => by show upd n.H p o b = _; rw [upd_ne (ne_of_none e h)]; exact e
  dom := fun b e => by
    by_cases hb : b = p
    · subst hb; exact h
    · rw [← e]; exact (upd_ne hb).symm
  fixd := fun b vs _ e => by show upd n.H p o b = _; rw [upd_ne (ne_of_none e h)]; exact e
theorem Step.cell (h : n.H p = none) : Step n (n.cell p o) where
  same := SameL.refl _
  pre := List.prefix_append _ _
  newb := fun b u e => .inl (nn e)
  newa := fun b hb => by
    rcases List.mem_append.mp hb with z | z
    · exact .inl z
    · rw [List.mem_singleton.mp z]; exact .inr h
  newp := fun b h => .inl h
  keep := fun b u e _ _ _ => by show upd n.H p o b = _; rw [upd_ne (ne_of_none e h)]; exact e
  dom := fun b e => by
    by_cases hb : b = p
    · subst hb; exact h
    · rw [← e]; exact (upd_ne hb).symm
  fixd := fun b vs _ e => by show upd n.H p o b = _; rw [upd_ne (ne_of_none e h)]; exact e
theorem SR0.cellN (s : SR0 K n μ) (h : n.H p = none) {c : Cell} (hc : CellAt K (n.cell p o) p c) (ho : ∀ k, c ≠ .orc k) : SR0 K (n.cell p o) (μ ++ [c]) := by
  refine ⟨s.same.trans (same_upd h), by show (n.al ++ [p]).length = _; simp [s.len], ?_, fun i a d e1 e2 => ?_, fun a ha => ?_, fun i j x y e1 e2 => ?_, fun b hb' => ?_⟩
  · show (n.al ++ [p]).Nodup
    rw [List.nodup_append]
    exact ⟨s.nd, by simp, fun a ha b hb z => by rw [List.mem_singleton.mp hb] at z; exact s.nal h (z ▸ ha)⟩
  · have e1' : (n.al ++ [p])[i]? = some a := e1
    by_cases hi : i < n.al.length
    · rw [List.getElem?_append_left hi] at e1'
      rw [List.getElem?_append_left (by rw [← s.len]; exact hi)] at e2
      have hne : a ≠ p := fun z => s.nal h (z ▸ List.mem_of_getElem? e1')
      exact (s.cell i a d e1' e2).grow (n' := n.cell p o) (upd_ne hne) (fun z => z) (Same.refl _) (List.prefix_append _ _) rfl fun b hb' => upd_ne fun z => s.nph h (z ▸ hb')
    · rw [List.getElem?_append_right (by omega)] at e1'
      rw [List.getElem?_append_right (by rw [← s.len]; omega), ← s.len] at e2
      have hz : i - n.al.length = 0 := by
        have := (List.getElem?_eq_some_iff.mp e1').1
        simp at this; omega
      rw [hz] at e1' e2
      simp at e1' e2
      subst e1'; subst e2
      exact hc
  · rcases List.mem_append.mp ha with z | z
    · have hne : a ≠ p := fun y => s.nal h (y ▸ z)
      show upd n.H p o a ≠ none
      rw [upd_ne hne]; exact s.alh a z
    · rw [List.mem_singleton.mp z]
      show upd n.H p o p ≠ none
      rw [upd_same]; simp
  · have q : ∀ (i : Nat) x, (μ ++ [c])[i]? = some (.orc x) → μ[i]? = some (.orc x) := fun i x e => by
      by_cases hi : i < μ.length
      · rw [List.getElem?_append_left hi] at e; exact e
      · rw [List.getElem?_append_right (by omega)] at e
        have hz : i - μ.length = 0 := by
          have := (List.getElem?_eq_some_iff.mp e).1
          simp at this; omega
        rw [hz] at e; simp at e
        exact absurd e (ho x)
    exact s.orc1 i j x y (q i x e1) (q j y e2)
  · have hne : b ≠ p := fun z => s.nph h (z ▸ hb')
    obtain ⟨h1, h2, h3⟩ := s.phb b hb'
    refine ⟨h1, fun z => ?_, by show upd n.H p o b ≠ none; rw [upd_ne hne]; exact h3⟩
    rcases List.mem_append.mp z with z | z
    · exact h2 z
    · exact hne (List.mem_singleton.mp z)
theorem nodup_get {l : List Addr} (h : l.Nodup) {i j : Nat} {a : Addr} (h1 : l[i]? = some a) (h2 : l[j]? = some a) : i = j := by
  obtain ⟨p1, q1⟩ := List.getElem?_eq_some_iff.mp h1
  obtain ⟨p2, q2⟩ := List.getElem?_eq_some_iff.mp h2
  exact (List.getElem_inj h).mp (q1.trans q2.symm)
/-- a cell is written -/
theorem SR0.write (s : SR0 K n μ) {i : Nat} (hi : n.al[i]? = some a) (hb : n.Hb a = none) {c : Cell} (hc : CellAt K (n.more a o) a c) (ho : ∀ k, c ≠ .orc k) : SR0 K (n.more a o) (μ.set i c) := by
  refine ⟨fun b u e => ?_, by rw [List.length_set]; exact s.len, s.nd, fun j b d e1 e2 => ?_, fun b ha => ?_, fun j k x y e1 e2 => ?_, fun b hb' => ?_⟩
  · show upd n.H a o b = _
    rw [upd_ne (ne_of_none e hb)]; exact s.same _ _ e
  · have e1' : n.al[j]? = some b := e1
    by_cases hj : i = j
    · subst hj
      rw [hi] at e1'; cases e1'
      have hl : i < μ.length := by rw [← s.len]; exact (List.getElem?_eq_some_iff.mp hi).1
      rw [List.getElem?_set_self hl] at e2; cases e2
      exact hc
    · rw [List.getElem?_set_ne hj] at e2
      have hne : b ≠ a := fun z => hj (nodup_get s.nd hi (z ▸ e1'))
      exact (s.cell j b d e1' e2).grow (n' := n.more a o) (upd_ne hne) (fun z => z) (Same.refl _) (List.prefix_refl _) rfl fun b hb' => upd_ne fun z => (s.phb b hb').2.1 (z ▸ List.mem_of_getElem? hi)
  · show upd n.H a o b ≠ none
    by_cases hne : b = a
    · subst hne; rw [upd_same]; simp
    · rw [upd_ne hne]; exact s.alh b ha
  · have q : ∀ (j : Nat) x, (μ.set i c)[j]? = some (.orc x) → μ[j]? = some (.orc x) := fun j x e => by
      by_cases hj : i = j
      · subst hj
        have hl : i < μ.length := by rw [← s.len]; exact (List.getElem?_eq_some_iff.mp hi).1
        rw [List.getElem?_set_self hl] at e; cases e
        exact absurd rfl (ho x)
      · rw [List.getElem?_set_ne hj] at e; exact e
    exact s.orc1 j k x y (q j x e1) (q k y e2)
  · obtain ⟨h1, h2, h3⟩ := s.phb b hb'
    have hne : b ≠ a := fun z => h2 (z ▸ List.mem_of_getElem? hi)
    exact ⟨h1, h2, by show upd n.H a o b ≠ none; rw [upd_ne hne]; exact h3⟩
theorem Step.write {i : Nat} (hi : n.al[i]? = some a) (hb : n.Hb a = none) : Step n (n.more a o) where
  same := SameL.refl _
  pre := List.prefix_refl _
  newb := fun b u e => .inl (nn e)
  newa := fun b h => .inl h
  newp := fun b h => .inl h
  keep := fun b u e _ h1 _ => by
    show upd n.H a o b = _
    rw [upd_ne (show b ≠ a from fun z => h1 (z ▸ List.mem_of_getElem? hi))]; exact e
  dom := fun b e => by
    by_cases hb : b = a
    · subst hb; rw [show (n.more b o).H b = some o from upd_same] at e; cases e
    · rw [← e]; exact (upd_ne hb).symm
  fixd := fun b vs e1 e => by
    show upd n.H a o b = _
    rw [upd_ne (show b ≠ a from fun z => by rw [z, hb] at e1; cases e1)]; exact e
end
/-! ### what is seen of a value: fixed, or the cell as it stands -/
def lk (μ : Mu) : D → D
  | .ref l => match μ[l]? with
    | some (.lst xs) => .lst xs
    | some (.dct k) => .dct k
    | some (.ins C fs) => .ins C fs
    | _ => .ref l
  | d => d
section
variable {K : PySem.W.Frag} {n : Now} {μ : Mu} {v : V} {d : D}
theorem lk_ref {l : Nat} {e : D} (h : lk μ (.ref l) = e) (hne : e ≠ .ref l) : (∃ xs, μ[l]? = some (.lst xs) ∧ e = .lst xs) ∨ (∃ xs, μ[l]? = some (.dct xs) ∧ e = .dct xs) ∨ ∃ C fs, μ[l]? = some (.ins C fs) ∧ e = .ins C fs := by
  unfold lk at h
  dsimp only at h
  split at h
  · exact .inl ⟨_, by assumption, h.symm⟩
  · exact .inr (.inl ⟨_, by assumption, h.symm⟩)
  · exact .inr (.inr ⟨_, _, by assumption, h.symm⟩)
  · exact absurd h.symm hne
theorem see_lst {ds : List D} (s : SR0 K n μ) (r : Rep K n.Hb n.al v d) (h : lk μ d = .lst ds) : ∃ a vs, v = .ref a ∧ n.H a = some (.lst vs) ∧ Reps K n.Hb n.al vs ds := by
  cases r with
  | ref hl =>
    rcases lk_ref h (by simp) with ⟨xs, e, q⟩ | ⟨xs, e, q⟩ | ⟨C, fs, e, q⟩
    · cases q
      obtain ⟨_, vs, h1, h2⟩ := s.cell _ _ _ hl e
      exact ⟨_, vs, rfl, h1, h2⟩
    · cases q
    · cases q
  | lst hq hr => cases h; exact ⟨_, _, rfl, s.same _ _ hq, hr⟩
  | _ => cases h
theorem see_tup {ds : List D} (s : SR0 K n μ) (r : Rep K n.Hb n.al v d) (h : lk μ d = .tup ds) : ∃ a vs, v = .ref a ∧ n.H a = some (.tup vs) ∧ n.Hb a = some (.tup vs) ∧ Reps K n.Hb n.al vs ds := by
  cases r with
  | ref hl => rcases lk_ref h (by simp) with ⟨xs, e, q⟩ | ⟨xs, e, q⟩ | ⟨C, fs, e, q⟩ <;> cases q
  | tup hq hr => cases h; exact ⟨_, _, rfl, s.same _ _ hq, hq, hr⟩
  | _ => cases h
theorem see_dct {kvs : List (Key × D)} (s : SR0 K n μ) (r : Rep K n.Hb n.al v d) (h : lk μ d = .dct kvs) : ∃ a us, v = .ref a ∧ Rd n.H a (.dK us) ∧ kvs.map (·.1) = us.map (·.1) ∧ Reps K n.Hb n.al (us.map (·.2)) (kvs.map (·.2)) := by
  cases r with
  | ref hl =>
    rcases lk_ref h (by simp) with ⟨xs, e, q⟩ | ⟨xs, e, q⟩ | ⟨C, fs, e, q⟩
    · cases q
    · cases q
      obtain ⟨_, vs, h1, h2, h3⟩ := s.cell _ _ _ hl e
      exact ⟨_, vs, rfl, .inl h1, h2, h3⟩
    · cases q
  | dct hq hk hr =>
    cases h
    subst hk
    have hl := hr.length
    rw [List.length_map] at hl
    rw [List.map_fst_zip (by rw [List.length_map]; omega), List.map_snd_zip (by rw [List.length_map]; omega)]
    exact ⟨_, _, rfl, same_rd s.same hq, rfl, hr⟩
  | _ => cases h
end
end DV
namespace DV
open PySem L2
def dVar (i : Nat) : DTE := fun Γ μ Q _ => match Γ[i]? with
  | some (some d) => Q d μ
  | _ => False
def dC (d : D) : DTE := fun _ μ Q _ => Q d μ
def LV (K : PySem.W.Frag) (n : Now) (Qd : D → Mu → Prop) (Q : VK) : Prop := ∀ n' v d μ', Step n n' → SR0 K n' μ' → Rep K n'.Hb n'.al v d → Qd d μ' → Q v n'.H
theorem LV.now {K : PySem.W.Frag} {n : Now} {Qd : D → Mu → Prop} {Q : VK} (l : LV K n Qd Q) {μ : Mu} (s : SR0 K n μ) {v : V} {d : D} (r : Rep K n.Hb n.al v d) (q : Qd d μ) : Q v n.H := l n v d μ (Step.refl n) s r q
theorem LV.step {K : PySem.W.Frag} {n n' : Now} {Qd : D → Mu → Prop} {Q : VK} (l : LV K n Qd Q) (s : Step n n') : LV K n' Qd Q := fun n2 v d μ s2 => l n2 v d μ (s.trans s2)
/-- a new object, fixed -/
theorem LV.fixed {K : PySem.W.Frag} {n : Now} {Qd : D → Mu → Prop} {Q : VK} (l : LV K n Qd Q) {μ : Mu} (s : SR0 K n μ) {p : Addr} {o : HO} {d : D} (hp : n.H p = none) (r : Rep K (upd n.Hb p o) n.al (.ref p) d) (q : Qd d μ) : Q (.ref p) (upd n.H p o) :=
  l (n.fix p o) _ d μ (Step.fix s hp) (s.fix hp) r q
abbrev G2 := D → D → Mu → (D → Mu → Prop) → Prop
abbrev G1 := D → Mu → (D → Mu → Prop) → Prop
abbrev GN := List D → Mu → (D → Mu → Prop) → Prop
def Op2 (K : PySem.W.Frag) (r : R2) (g : G2) : Prop := ∀ n μ x y dx dy Qd (Q : VK), SR0 K n μ → Rep K n.Hb n.al x dx → Rep K n.Hb n.al y dy → g dx dy μ Qd → LV K n Qd Q → r x y n.H Q
def Op1 (K : PySem.W.Frag) (r : V → Hp → VK → Prop) (g : G1) : Prop := ∀ n μ x dx Qd (Q : VK), SR0 K n μ → Rep K n.Hb n.al x dx → g dx μ Qd → LV K n Qd Q → r x n.H Q
def OpN (K : PySem.W.Frag) (r : List V → Hp → VK → Prop) (g : GN) : Prop := ∀ n μ xs ds Qd (Q : VK), SR0 K n μ → Reps K n.Hb n.al xs ds → g ds μ Qd → LV K n Qd Q → r xs n.H Q
def dBin (g : G2) (fa fb : DTE) : DTE := fun Γ μ Q E => fa Γ μ (fun x μ1 => fb Γ μ1 (fun y μ2 => g x y μ2 Q) E) E
def dUn (g : G1) (fa : DTE) : DTE := fun Γ μ Q E => fa Γ μ (fun x μ1 => g x μ1 Q) E
def dNil : DTA := fun _ μ Q _ => Q [] μ
def dCons (fa : DTE) (fr : DTA) : DTA := fun Γ μ Q E => fa Γ μ (fun x μ1 => fr Γ μ1 (fun xs μ2 => Q (x :: xs) μ2) E) E
def dCall (g : GN) (fa : DTA) : DTE := fun Γ μ Q E => fa Γ μ (fun xs μ1 => g xs μ1 Q) E
def dTest (fa : DTE) : DTT := fun Γ μ Q E => fa Γ μ (fun x μ1 => match x with | .bl b => Q b μ1 | _ => False) E
def dOp (sp : DSp) (fa : DTA) : DTE := fun Γ μ Q E => fa Γ μ (fun xs μ1 => sp xs μ1 Q E) E
section
variable {X : Cx} {W : WX} {e a b c : Expr} {es : List Expr} {pos : Pos} {fa fb fc : DTE} {ft : DTT} {fr : DTA}
theorem de_var {i : Nat} (h : PE X e (tVar i)) : DE X W e (dVar i) := PE.imp h fun σ H Q ⟨n, Γ, μ, Qd, Ed, hH, sr, gr, h, hq, hx⟩ => by
  subst hH
  unfold dVar at h
  split at h
  · rename_i d e
    obtain ⟨v, h1, h2⟩ := gr.at_ i d e
    exact ⟨v, h1, hq n v d μ (Step.refl n) sr h2 h⟩
  · exact h.elim
theorem de_c {v : V} {d : D} (r : ∀ K Hb al, Rep K Hb al v d) (h : PE X e (tC v)) : DE X W e (dC d) := PE.imp h fun σ H Q ⟨n, Γ, μ, Qd, Ed, hH, sr, gr, h, hq, hx⟩ => by
  subst hH
  exact hq n v d μ (Step.refl n) sr (r _ _ _) h
theorem de_int {i : Int} (h : PE X e (tC (.int i))) : DE X W e (dC (.int i)) := de_c (fun _ _ _ => .int i) h
theorem de_bl {i : Bool} (h : PE X e (tC (.bl i))) : DE X W e (dC (.bl i)) := de_c (fun _ _ _ => .bl i) h
theorem de_str {i : Str} (h : PE X e (tC (.str i))) : DE X W e (dC (.str i)) := de_c (fun _ _ _ => .str i) h
theorem de_non (h : PE X e (tC .non)) : DE X W e (dC .non) := de_c (fun _ _ _ => .non) h
/-- from a part's reading to what follows -/
theorem lift_go {K : PySem.W.Frag} {n : Now} {Γ : Gam} {μ : Mu} {σ : St} {Qd : D → Mu → Prop} {Ed : Exn → Mu → Prop} {Q : VK} (sr : SR0 K n μ) (gr : GR K n Γ σ) (h : fa Γ μ Qd Ed) (hq : LV K n Qd Q) (hx : XLink K W n Γ σ Ed) : lift K W fa σ n.H Q :=
  ⟨n, Γ, μ, Qd, Ed, rfl, sr, gr, h, hq, hx⟩
theorem liftA_go {K : PySem.W.Frag} {n : Now} {Γ : Gam} {μ : Mu} {σ : St} {Qd : List D → Mu → Prop} {Ed : Exn → Mu → Prop} {Q : List V → Hp → Prop} (sr : SR0 K n μ) (gr : GR K n Γ σ) (h : fr Γ μ Qd Ed)
    (hq : ∀ n' v d μ', Step n n' → SR0 K n' μ' → Reps K n'.Hb n'.al v d → Qd d μ' → Q v n'.H) (hx : XLink K W n Γ σ Ed) : liftA K W fr σ n.H Q :=
  ⟨n, Γ, μ, Qd, Ed, rfl, sr, gr, h, hq, hx⟩
theorem liftT_go {K : PySem.W.Frag} {n : Now} {Γ : Gam} {μ : Mu} {σ : St} {Qd : Bool → Mu → Prop} {Ed : Exn → Mu → Prop} {Q : Bool → Hp → Prop} (sr : SR0 K n μ) (gr : GR K n Γ σ) (h : ft Γ μ Qd Ed)
    (hq : ∀ n' b μ', Step n n' → SR0 K n' μ' → Qd b μ' → Q b n'.H) (hx : XLink K W n Γ σ Ed) : liftT K W ft σ n.H Q :=
  ⟨n, Γ, μ, Qd, Ed, rfl, sr, gr, h, hq, hx⟩
theorem two {K : PySem.W.Frag} {r : R2} {g : G2} (hg : Op2 K r g) (σ : St) (H : Hp) (Q : VK) (h : lift K W (dBin g fa fb) σ H Q) : tOp r (lift K W fa) (lift K W fb) σ H Q := by
  obtain ⟨n, Γ, μ, Qd, Ed, hH, sr, gr, h, hq, hx⟩ := h
  subst hH
  refine lift_go sr gr h (fun n1 x dx μ1 s1 r1 p1 q1 => lift_go r1 (gr.step s1) q1 (fun n2 y dy μ2 s2 r2 p2 q2 => ?_) (hx.step s1)) hx
  exact hg n2 μ2 x y dx dy Qd Q r2 (s2.rep p1) p2 q2 (LV.step hq (s1.trans s2))
theorem de_op {op : Operator} {r : R2} {g : G2} (ho : OpR X (binaryOp op) r) (hg : Op2 X.K r g) (ha : DE X W a fa) (hb : DE X W b fb) : DE X W (.BinOp a op b pos) (dBin g fa fb) := PE.imp (pe_op ho ha hb) (two hg)
theorem de_cmp {op : CmpOp} {r : R2} {g : G2} (ho : OpR X (compareOp op) r) (hg : Op2 X.K r g) (ha : DE X W a fa) (hb : DE X W b fb) (hm : behindInMarks op b = false := by rfl) : DE X W (.Compare a [op] [b] pos) (dBin g fa fb) := PE.imp (pe_cmpR ho ha hb hm) (two hg)
theorem de_un {op : UnaryOp} {r : V → Hp → VK → Prop} {g : G1} (ho : UnR X (unaryOp op) r) (hg : Op1 X.K r g) (ha : DE X W a fa) : DE X W (.UnaryOp op a pos) (dUn g fa) := PE.imp (pe_un ho ha) fun σ H Q ⟨n, Γ, μ, Qd, Ed, hH, sr, gr, h, hq, hx⟩ => by
  subst hH
  exact lift_go sr gr h (fun n1 x dx μ1 s1 r1 p1 q1 => hg n1 μ1 x dx Qd Q r1 p1 q1 (LV.step hq s1)) hx
theorem de_ix {r : R2} {g : G2} (ho : IxR X r) (hg : Op2 X.K r g) (ha : DE X W a fa) (hb : DE X W b fb) (hs : PlainIx b := by exact fun _ _ => rfl) : DE X W (.Subscript a b pos) (dBin g fa fb) := PE.imp (pe_ix ho ha hb hs) (two hg)
/-! arguments -/
theorem da_nil : DA X W [] dNil := PA.imp pa_nil fun σ H Q ⟨n, Γ, μ, Qd, Ed, hH, sr, gr, h, hq, hx⟩ => by
  subst hH
  exact hq n [] [] μ (Step.refl n) sr .nil h
theorem da_cons (ha : DE X W e fa) (hr : DA X W es fr) (hs : starEach (e :: es) X.env = (false, eval e X.env) :: starEach es X.env := by rfl) : DA X W (e :: es) (dCons fa fr) := PA.imp (pa_cons ha hr hs) fun σ H Q ⟨n, Γ, μ, Qd, Ed, hH, sr, gr, h, hq, hx⟩ => by
  subst hH
  refine lift_go sr gr h (fun n1 x dx μ1 s1 r1 p1 q1 => liftA_go r1 (gr.step s1) q1 (fun n2 y dy μ2 s2 r2 p2 q2 => ?_) (hx.step s1)) hx
  exact hq n2 _ _ μ2 (s1.trans s2) r2 (.cons (s2.rep p1) p2) q2
/-! displays -/
def gLst : GN := fun ds μ Q => ds.length ≤ sizeLine ∧ Q (.lst ds) μ
def gTup : GN := fun ds μ Q => ds.length ≤ sizeLine ∧ Q (.tup ds) μ
/-- a list that will change: a cell -/
def gLstM : GN := fun ds μ Q => ds.length ≤ sizeLine ∧ Q (.ref μ.length) (μ ++ [.lst ds])
theorem nN {K : PySem.W.Frag} {r : List V → Hp → VK → Prop} {g : GN} (hg : OpN K r g) (σ : St) (H : Hp) (Q : VK) (h : lift K W (dCall g fr) σ H Q) : liftA K W fr σ H fun xs H1 => r xs H1 Q := by
  obtain ⟨n, Γ, μ, Qd, Ed, hH, sr, gr, h, hq, hx⟩ := h
  subst hH
  exact liftA_go sr gr h (fun n1 x dx μ1 s1 r1 p1 q1 => hg n1 μ1 x dx Qd Q r1 p1 q1 (LV.step hq s1)) hx
theorem rep_lst {K : PySem.W.Frag} {Hb : Hp} {al : List Addr} {p : Addr} {vs : List V} {ds : List D} (hp : Hb p = none) (r : Reps K Hb al vs ds) : Rep K (upd Hb p (.lst vs)) al (.ref p) (.lst ds) := .lst upd_same (r.mono (same_upd hp) (List.prefix_refl _))
theorem rep_tup {K : PySem.W.Frag} {Hb : Hp} {al : List Addr} {p : Addr} {vs : List V} {ds : List D} (hp : Hb p = none) (r : Reps K Hb al vs ds) : Rep K (upd Hb p (.tup vs)) al (.ref p) (.tup ds) := .tup upd_same (r.mono (same_upd hp) (List.prefix_refl _))
/-- a new list, as data or as a cell -/
theorem new_lst {K : PySem.W.Frag} {n : Now} {Qd : D → Mu → Prop} {Q : VK} (l : LV K n Qd Q) {μ : Mu} (s : SR0 K n μ) {p : Addr} {vs : List V} {ds : List D} (hp : n.H p = none) (r : Reps K n.Hb n.al vs ds) (q : Qd (.lst ds) μ) : Q (.ref p) (upd n.H p (.lst vs)) :=
  l.fixed s hp (rep_lst (s.hb hp) r) q
theorem new_tup {K : PySem.W.Frag} {n : Now} {Qd : D → Mu → Prop} {Q : VK} (l : LV K n Qd Q) {μ : Mu} (s : SR0 K n μ) {p : Addr} {vs : List V} {ds : List D} (hp : n.H p = none) (r : Reps K n.Hb n.al vs ds) (q : Qd (.tup ds) μ) : Q (.ref p) (upd n.H p (.tup vs)) :=
  l.fixed s hp (rep_tup (s.hb hp) r) q
theorem new_cell {K : PySem.W.Frag} {n : Now} {Qd : D → Mu → Prop} {Q : VK} (l : LV K n Qd Q) {μ : Mu} (s : SR0 K n μ) {p : Addr} {vs : List V} {ds : List D} (hp : n.H p = none) (r : Reps K n.Hb n.al vs ds) (q : Qd (.ref μ.length) (μ ++ [.lst ds])) : Q (.ref p) (upd n.H p (.lst vs)) := by
  refine l (n.cell p (.lst vs)) _ (.ref μ.length) (μ ++ [.lst ds]) (Step.cell hp) (s.cellN (c := .lst ds) hp ⟨s.hb hp, vs, upd_same, r.mono (Same.refl _) (List.prefix_append _ _)⟩ (fun k z => by cases z)) (.ref ?_) q
  show (n.al ++ [p])[μ.length]? = some p
  rw [← s.len]
  simp
theorem opn_lst {K : PySem.W.Frag} : OpN K (fun xs H Q => xs.length ≤ sizeLine ∧ ∀ p, H p = none → Q (.ref p) (upd H p (.lst xs))) gLst := fun n μ xs ds Qd Q s r h l => ⟨r.length ▸ h.1, fun p hp => new_lst l s hp r h.2⟩
theorem opn_lstM {K : PySem.W.Frag} : OpN K (fun xs H Q => xs.length ≤ sizeLine ∧ ∀ p, H p = none → Q (.ref p) (upd H p (.lst xs))) gLstM := fun n μ xs ds Qd Q s r h l => ⟨r.length ▸ h.1, fun p hp => new_cell l s hp r h.2⟩
theorem opn_tup {K : PySem.W.Frag} : OpN K (fun xs H Q => xs.length ≤ sizeLine ∧ ∀ p, H p = none → Q (.ref p) (upd H p (.tup xs))) gTup := fun n μ xs ds Qd Q s r h l => ⟨r.length ▸ h.1, fun p hp => new_tup l s hp r h.2⟩
theorem de_lst (h : DA X W es fr) : DE X W (.List es pos) (dCall gLst fr) := PE.imp (pe_lst h) fun σ H Q q => by
  have z := nN (opn_lst (K := X.K)) σ H Q q
  exact z
theorem de_lstM (h : DA X W es fr) : DE X W (.List es pos) (dCall gLstM fr) := PE.imp (pe_lst h) fun σ H Q q => by
  have z := nN (opn_lstM (K := X.K)) σ H Q q
  exact z
theorem de_tup {x1} (h : DA X W es fr) : DE X W (.Tuple es x1 pos) (dCall gTup fr) := PE.imp (pe_tup h) fun σ H Q q => by
  have z := nN (opn_tup (K := X.K)) σ H Q q
  exact z
/-! builtins by name -/
section
variable {x : Str} {id : String} {T : String} {r : List V → Hp → VK → Prop} {g : GN} {p : Pos}
theorem de_callB (hc : CallR X (.builtin id) r) (hg : OpN X.K r g) (hgl : Gl X x) (hm : X.mg x = none) (hv : bootBuiltins x = some (.builtin id)) (ha : DA X W (e :: es) fr) (hn : x ≠ "__name__" := by decide) (hdb : (x == ("__debug__" : Str)) = false := by decide)
    (he : starEach (e :: es) X.env = (false, eval e X.env) :: starEach es X.env := by rfl) (hpl : (backTo pos (starEach es X.env)).any (·.1) = false := by rfl) : DE X W (.Call (.Name x p) (e :: es) [] pos) (dCall g fr) :=
  PE.imp (pe_callB hc hgl hm hv ha hn hdb he hpl) fun σ H Q q => nN hg σ H Q q
theorem de_callTy (hc : CallR X (.type T) r) (hg : OpN X.K r g) (hgl : Gl X x) (hm : X.mg x = none) (hv : bootBuiltins x = some (.type T)) (ha : DA X W (e :: es) fr) (hn : x ≠ "__name__" := by decide) (hdb : (x == ("__debug__" : Str)) = false := by decide)
    (he : starEach (e :: es) X.env = (false, eval e X.env) :: starEach es X.env := by rfl) (hpl : (backTo pos (starEach es X.env)).any (·.1) = false := by rfl) : DE X W (.Call (.Name x p) (e :: es) [] pos) (dCall g fr) :=
  PE.imp (pe_callTy hc hgl hm hv ha hn hdb he hpl) fun σ H Q q => nN hg σ H Q q
end
/-! tests -/
theorem dt_val (h : DE X W e fa) (he : ∀ whole, isTrue e X.env whole = (do let v ← whole; standAt e.pos; holding [v] (truthy v)) := by intro _; rfl) : DT X W e (dTest fa) := PT.imp (pt_val h he) fun σ H Q ⟨n, Γ, μ, Qd, Ed, hH, sr, gr, h, hq, hx⟩ => by
  subst hH
  refine lift_go sr gr h (fun n1 x dx μ1 s1 r1 p1 q1 => ?_) hx
  cases p1 with
  | bl b => exact ⟨b, rfl, hq n1 b μ1 s1 r1 q1⟩
  | _ => exact q1.elim
def dAndT (ta tb : DTT) : DTT := fun Γ μ Q E => ta Γ μ (fun c μ1 => cond c (tb Γ μ1 Q E) (Q false μ1)) E
def dOrT (ta tb : DTT) : DTT := fun Γ μ Q E => ta Γ μ (fun c μ1 => cond c (Q true μ1) (tb Γ μ1 Q E)) E
def dNotT (ta : DTT) : DTT := fun Γ μ Q E => ta Γ μ (fun c μ1 => Q (!c) μ1) E
/-- and, or of values all but the last of which are True or False -/
def dAnd (ta tb : DTE) : DTE := fun Γ μ Q E => ta Γ μ (fun x μ1 => match x with | .bl c => cond c (tb Γ μ1 Q E) (Q (.bl false) μ1) | _ => False) E
def dOr (ta tb : DTE) : DTE := fun Γ μ Q E => ta Γ μ (fun x μ1 => match x with | .bl c => cond c (Q (.bl true) μ1) (tb Γ μ1 Q E) | _ => False) E
def dNot (ta : DTE) : DTE := fun Γ μ Q E => ta Γ μ (fun x μ1 => match x with | .bl c => Q (.bl (!c)) μ1 | _ => False) E
def dIfE (t : DTT) (ta tb : DTE) : DTE := fun Γ μ Q E => t Γ μ (fun c μ1 => cond c (ta Γ μ1 Q E) (tb Γ μ1 Q E)) E
theorem de_one {op} (h : DE X W a fa) : DE X W (.BoolOp op [a] pos) fa := pe_one h
theorem de_and {rest : List Expr} (ha : DE X W a fa) (hb : DE X W (.BoolOp .And (b :: rest) pos) fb) : DE X W (.BoolOp .And (a :: b :: rest) pos) (dAnd fa fb) := PE.imp (pe_and ha hb) fun σ H Q ⟨n, Γ, μ, Qd, Ed, hH, sr, gr, h, hq, hx⟩ => by
  subst hH
  refine lift_go sr gr h (fun n1 x dx μ1 s1 r1 p1 q1 => ?_) hx
  cases p1 with
  | bl c =>
    refine ⟨c, rfl, ?_⟩
    cases c with
    | true => exact iteT (lift_go r1 (gr.step s1) q1 (LV.step hq s1) (hx.step s1))
    | false => exact iteF (hq n1 _ _ μ1 s1 r1 (.bl false) q1)
  | _ => exact q1.elim
theorem pw_and' {rest : List Expr} {ta tb : DTT} (ha : DT X W a ta) (hb : PW X (.BoolOp .And (b :: rest) pos) (liftT X.K W tb)) : PW X (.BoolOp .And (a :: b :: rest) pos) (liftT X.K W (dAndT ta tb)) := by
  have z := pw_and (pos := pos) ha hb
  refine ⟨fun whole pins s σ H Q I h => z.run whole pins s σ H Q I ?_⟩
  obtain ⟨n, Γ, μ, Qd, Ed, hH, sr, gr, h, hq, hx⟩ := h
  subst hH
  refine liftT_go sr gr h (fun n1 x μ1 s1 r1 q1 => ?_) hx
  cases x with
  | true => exact iteT (liftT_go r1 (gr.step s1) q1 (fun n2 b μ2 s2 => hq n2 b μ2 (s1.trans s2)) (hx.step s1))
  | false => exact iteF (hq n1 _ μ1 s1 r1 q1)
theorem pw_or' {rest : List Expr} {ta tb : DTT} (ha : DT X W a ta) (hb : PW X (.BoolOp .Or (b :: rest) pos) (liftT X.K W tb)) : PW X (.BoolOp .Or (a :: b :: rest) pos) (liftT X.K W (dOrT ta tb)) := by
  have z := pw_or (pos := pos) ha hb
  refine ⟨fun whole pins s σ H Q I h => z.run whole pins s σ H Q I ?_⟩
  obtain ⟨n, Γ, μ, Qd, Ed, hH, sr, gr, h, hq, hx⟩ := h
  subst hH
  refine liftT_go sr gr h (fun n1 x μ1 s1 r1 q1 => ?_) hx
  cases x with
  | true => exact iteT (hq n1 _ μ1 s1 r1 q1)
  | false => exact iteF (liftT_go r1 (gr.step s1) q1 (fun n2 b μ2 s2 => hq n2 b μ2 (s1.trans s2)) (hx.step s1))
theorem dt_not {ta : DTT} (ha : DT X W a ta) : DT X W (.UnaryOp .Not a pos) (dNotT ta) := PT.imp (pt_not ha) fun σ H Q ⟨n, Γ, μ, Qd, Ed, hH, sr, gr, h, hq, hx⟩ => by
  subst hH
  exact liftT_go sr gr h (fun n1 x μ1 s1 r1 q1 => hq n1 _ μ1 s1 r1 q1) hx
end
end DV
namespace DV
open PySem L2
/-! ### what has no reference in it -/
mutual
def D.pu : D → Bool
  | .ref _ => false
  | .lst xs => D.puL xs
  | .tup xs => D.puL xs
  | .dct kvs => D.puK kvs
  | .ins _ fs => D.puF fs
  | _ => true
def D.puL : List D → Bool
  | [] => true
  | x :: xs => x.pu && D.puL xs
def D.puK : List (Key × D) → Bool
  | [] => true
  | (_, x) :: xs => x.pu && D.puK xs
def D.puF : List (Str × D) → Bool
  | [] => true
  | (_, x) :: xs => x.pu && D.puF xs
end
theorem puK_eq : ∀ (xs : List (Key × D)), D.puK xs = D.puL (xs.map (·.2))
  | [] => rfl
  | (k, x) :: xs => by simp [D.puK, D.puL, puK_eq xs]
theorem puF_eq : ∀ (xs : List (Str × D)), D.puF xs = D.puL (xs.map (·.2))
  | [] => rfl
  | (k, x) :: xs => by simp [D.puF, D.puL, puF_eq xs]
def Cell.pu : Cell → Bool
  | .lst xs => D.puL xs
  | .dct kvs => D.puK kvs
  | .ins _ fs => D.puF fs
  | .exc _ fs => D.puF fs
  | .dtp kvs => D.puL (kvs.map (·.2))
  | .exo _ _ => false
  | .xdc fs => D.puF fs
  | _ => true
theorem puF_mem {fs : List (Str × D)} {f : Str} {d : D} (hp : D.puF fs = true) (h : fs.lookup f = some d) : d.pu = true := by
  induction fs with
  | nil => cases h
  | cons p l ih =>
    obtain ⟨g, y⟩ := p
    simp only [D.puF, Bool.and_eq_true] at hp
    rw [List.lookup_cons] at h
    split at h
    · cases h; exact hp.1
    · exact ih hp.2 h
section
variable {K : PySem.W.Frag} {Hb : Hp} {al al' : List Addr}
mutual
theorem Rep.any : ∀ {v : V} {d : D}, Rep K Hb al v d → d.pu = true → Rep K Hb al' v d
  | _, _, .non, _ => .non
  | _, _, .bl b, _ => .bl b
  | _, _, .int i, _ => .int i
  | _, _, .str x, _ => .str x
  | _, _, .ref h, q => by simp [D.pu] at q
  | _, _, .cls C, _ => .cls C
  | _, _, .scr h, _ => .scr h
  | _, _, .lst h r, q => .lst h (Reps.any r (by simpa [D.pu] using q))
  | _, _, .tup h r, q => .tup h (Reps.any r (by simpa [D.pu] using q))
  | _, _, .dct (us := us) (ks := ks) (ds := ds) h e r, q => .dct h e (Reps.any r (by
      have hl := r.length
      rw [List.length_map] at hl
      rw [D.pu, puK_eq, List.map_snd_zip (by rw [e, List.length_map]; omega)] at q
      exact q))
  | _, _, .ins (us := us) (ks := ks) (ds := ds) h e r, q => .ins h e (Reps.any r (by
      have hl := r.length
      rw [List.length_map] at hl
      rw [D.pu, puF_eq, List.map_snd_zip (by rw [e, List.length_map]; omega)] at q
      exact q))
theorem Reps.any : ∀ {vs : List V} {ds : List D}, Reps K Hb al vs ds → D.puL ds = true → Reps K Hb al' vs ds
  | _, _, .nil, _ => .nil
  | _, _, .cons h r, q => by
    simp [D.puL] at q
    exact .cons (Rep.any h q.1) (Reps.any r q.2)
end
mutual
/-- data that stood over a shorter list of cells -/
theorem Rep.back {K' : PySem.W.Frag} {Hb' : Hp} (p : al <+: al') : ∀ {v : V} {d : D} {v' : V}, Rep K Hb al v d → Rep K' Hb' al' v' d → Rep K' Hb' al v' d
  | _, _, _, .non, h => by cases h; exact .non
  | _, _, _, .bl b, h => by cases h; exact .bl b
  | _, _, _, .int b, h => by cases h; exact .int b
  | _, _, _, .str b, h => by cases h; exact .str b
  | _, _, _, .cls b, h => by cases h; exact .cls b
  | _, _, _, .scr b, h => by
    cases h with
    | scr h2 => exact .scr h2
  | _, _, _, .ref h1, h => by
    cases h with
    | ref h2 =>
      have := pre_get p h1
      rw [h2] at this; cases this
      exact .ref h1
  | _, _, _, .lst h1 r, h => by
    cases h with
    | lst h2 r2 => exact .lst h2 (Reps.back p r r2)
  | _, _, _, .tup h1 r, h => by
    cases h with
    | tup h2 r2 => exact .tup h2 (Reps.back p r r2)
  | _, _, _, .dct (us := us) (ks := ks) (ds := ds) h1 e1 r, h => by
    generalize hq : ks.zip ds = zs at h
    cases h with
    | dct h2 e2 r2 =>
      rename_i us2 ks2 ds2
      have l1 := r.length
      have l2 := r2.length
      rw [List.length_map] at l1 l2
      have e : ds = ds2 := by
        have z := congrArg (List.map Prod.snd) hq
        rw [List.map_snd_zip (by rw [e1, List.length_map]; omega), List.map_snd_zip (by rw [e2, List.length_map]; omega)] at z
        exact z
      exact .dct h2 e2 (Reps.back p r (e ▸ r2) |> fun q => e ▸ q)
  | _, _, _, .ins (us := us) (ks := ks) (ds := ds) h1 e1 r, h => by
    generalize hq : ks.zip ds = zs at h
    cases h with
    | ins h2 e2 r2 =>
      rename_i us2 ks2 ds2
      have l1 := r.length
      have l2 := r2.length
      rw [List.length_map] at l1 l2
      have e : ds = ds2 := by
        have z := congrArg (List.map Prod.snd) hq
        rw [List.map_snd_zip (by rw [e1, List.length_map]; omega), List.map_snd_zip (by rw [e2, List.length_map]; omega)] at z
        exact z
      exact .ins h2 e2 (Reps.back p r (e ▸ r2) |> fun q => e ▸ q)
theorem Reps.back {K' : PySem.W.Frag} {Hb' : Hp} (p : al <+: al') : ∀ {v : List V} {d : List D} {v' : List V}, Reps K Hb al v d → Reps K' Hb' al' v' d → Reps K' Hb' al v' d
  | _, _, _, .nil, h => by cases h; exact .nil
  | _, _, _, .cons h r, q => by
    cases q with
    | cons h2 r2 => exact .cons (Rep.back p h h2) (Reps.back p r r2)
end
end
/-! ### statements -/
def dNext : DTS := fun D Γ μ => D.nx Γ μ
def dSeq (t u : DTS) : DTS := fun D Γ μ => t { D with nx := u D } Γ μ
def dDrop (f : DTE) : DTS := fun D Γ μ => f Γ μ (fun _ μ1 => D.nx Γ μ1) (fun x μ1 => D.ex x Γ μ1)
def dRet (f : DTE) : DTS := fun D Γ μ => f Γ μ D.rt (fun x μ1 => D.ex x Γ μ1)
def dRetN : DTS := fun D Γ μ => D.rt .non μ
def dIf (t : DTT) (a b : DTS) : DTS := fun D Γ μ => t Γ μ (fun c μ1 => cond c (a D Γ μ1) (b D Γ μ1)) (fun x μ1 => D.ex x Γ μ1)
def dBreak : DTS := fun D Γ μ => D.bk Γ μ
def dCont : DTS := fun D Γ μ => D.ct Γ μ
abbrev DTG := D → Gam → Mu → (Gam → Mu → Prop) → (Exn → Mu → Prop) → Prop
def dName (i : Nat) : DTG := fun d Γ μ Q _ => Q (Γ.set i (some d)) μ
def dAsg (f : DTE) (g : DTG) : DTS := fun D Γ μ => f Γ μ (fun d μ1 => g d Γ μ1 D.nx (fun x μ2 => D.ex x Γ μ2)) (fun x μ1 => D.ex x Γ μ1)
section
variable (K : PySem.W.Frag) (W : WX)
def liftG (g : DTG) : TG := fun v σ H Q => ∃ n d Γ μ Qd Ed, n.H = H ∧ SR0 K n μ ∧ GR K n Γ σ ∧ Rep K n.Hb n.al v d ∧ g d Γ μ Qd Ed ∧
  (∀ n' Γ' σ' μ', Step n n' → SR0 K n' μ' → GR K n' Γ' σ' → Qd Γ' μ' → Q σ' n'.H) ∧ XLink K W n Γ σ Ed
end
abbrev DG (X : Cx) (W : WX) (tg : Expr) (g : DTG) : Prop := PG X tg (liftG X.K W g)
section
variable {X : Cx} {W : WX} {e c tg : Expr} {st : Stmt} {rest sa sb : List Stmt} {pos : Pos} {f : DTE} {t : DTT} {T U : DTS} {g : DTG}
theorem PG.imp {g g' : TG} (h : PG X tg g) (hi : ∀ v σ H Q, g' v σ H Q → g v σ H Q) : PG X tg g' :=
  ⟨fun u v pins s σ H Q I r q => h.run u v pins s σ H Q I r (hi _ _ _ _ q)⟩
theorem liftS_go {K : PySem.W.Frag} {A n : Now} {Γ : Gam} {μ : Mu} {σ : St} {Dd : DEnds} {Dn : Ends} (sa : Step A n) (sr : SR0 K n μ) (gr : GR K n Γ σ) (h : T Dd Γ μ) (l : Links K W A Dd Dn) : liftS K W T Dn σ n.H :=
  ⟨A, n, Γ, μ, Dd, rfl, sa, sr, gr, h, l⟩
theorem Links.x {K : PySem.W.Frag} {A n : Now} {Γ : Gam} {σ : St} {Dd : DEnds} {Dn : Ends} (l : Links K W A Dd Dn) (s : Step A n) (gr : GR K n Γ σ) : XLink K W n Γ σ (fun x μ1 => Dd.ex x Γ μ1) :=
  fun n' cls dd x μ' s' r' e q => l.ex n' Γ σ μ' cls dd x (s.trans s') r' (gr.step s') (e.anchor s) q
theorem dss_nil : DSs X W [] dNext := PSs.imp pss_nil fun Dn σ H ⟨A, n, Γ, μ, Dd, hH, sa, sr, gr, h, l⟩ => by
  subst hH; exact l.nx n Γ σ μ sa sr gr h
theorem dss_cons (h1 : DS X W st T) (h2 : DSs X W rest U) : DSs X W (st :: rest) (dSeq T U) := PSs.imp (pss_cons h1 h2) fun Dn σ H ⟨A, n, Γ, μ, Dd, hH, sa, sr, gr, h, l⟩ => by
  subst hH
  refine liftS_go sa sr gr h ⟨fun n' Γ' σ' μ' s' r' g' q => liftS_go s' r' g' q l, l.bk, l.ct, l.rt, l.ex⟩
theorem dss_one (h1 : DS X W st T) : DSs X W [st] T := pss_one h1
theorem ds_drop (h : DE X W e f) (hs : swapsWith e none pos.line X.env = pure false := by rfl) : DS X W (.Expr e pos) (dDrop f) := PS.imp (ps_expr h hs) fun Dn σ H ⟨A, n, Γ, μ, Dd, hH, sa, sr, gr, h, l⟩ => by
  subst hH
  exact lift_go sr gr h (fun n' v d μ' s' r' _ q => l.nx n' Γ σ μ' (sa.trans s') r' (gr.step s') q) (l.x sa gr)
theorem ds_ret (h : DE X W e f) : DS X W (.Return (some e) pos) (dRet f) := PS.imp (ps_ret h) fun Dn σ H ⟨A, n, Γ, μ, Dd, hH, sa, sr, gr, h, l⟩ => by
  subst hH
  exact lift_go sr gr h (fun n' v d μ' s' r' p q => l.rt n' v d μ' (sa.trans s') r' p q) (l.x sa gr)
theorem ds_if (hc : DT X W c t) (ha : DSs X W sa T) (hb : DSs X W sb U) : DS X W (.If c sa sb pos) (dIf t T U) := PS.imp (ps_if hc ha hb) fun Dn σ H ⟨A, n, Γ, μ, Dd, hH, sa, sr, gr, h, l⟩ => by
  subst hH
  refine liftT_go sr gr h (fun n' b μ' s' r' q => ?_) (l.x sa gr)
  cases b with
  | true => exact iteT (liftS_go (sa.trans s') r' (gr.step s') q l)
  | false => exact iteF (liftS_go (sa.trans s') r' (gr.step s') q l)
theorem dg_name {i : Nat} (h : PG X tg (gName i)) : DG X W tg (dName i) := PG.imp h fun v σ H Q ⟨n, d, Γ, μ, Qd, Ed, hH, sr, gr, rp, h, hq, hx⟩ => by
  subst hH
  exact hq n (Γ.set i (some d)) (σ.set i (some v)) μ (Step.refl n) sr (gr.set rp i) h
theorem ds_asg (he : DE X W e f) (hg : DG X W tg g) (hs : swapsWithSole [tg] e pos.line X.env = pure false := by rfl) (hw : swappedStores [tg] e X.env = pure none := by rfl)
    (h1 : (assignEach [tg] X.env).map (·.2) = [assign tg X.env] := by rfl) : DS X W (.Assign [tg] e pos) (dAsg f g) := PS.imp (ps_asg he hg hs hw h1) fun Dn σ H ⟨A, n, Γ, μ, Dd, hH, sa, sr, gr, h, l⟩ => by
  subst hH
  refine lift_go sr gr h (fun n' v d μ' s' r' p q => ?_) (l.x sa gr)
  exact ⟨n', d, Γ, μ', _, _, rfl, r', gr.step s', p, q, fun n2 Γ2 σ2 μ2 s2 r2 g2 q2 => l.nx n2 Γ2 σ2 μ2 ((sa.trans s').trans s2) r2 g2 q2, l.x (sa.trans s') (gr.step s')⟩
theorem ds_set {i : Nat} {x : Str} {pos' : Pos} (he : DE X W e f) (hN : X.N.Nodup) (hi : X.N[i]? = some x := by rfl) (hx : Loc X.env.scope x := by first | exact Or.inl rfl | exact Or.inr rfl) (hs : swapsWith e (some (.Name x pos')) pos.line X.env = pure false := by rfl) (hf : X.fn x = true ∨ X.env.scope.names.lookup x = some .local := by first | exact .inl rfl | exact .inr rfl | assumption) :
    DS X W (.Assign [.Name x pos'] e pos) (dAsg f (dName i)) := PS.imp (ps_set (i := i) (pos := pos) (pos' := pos') hN hi hx he hs hf) fun Dn σ H ⟨A, n, Γ, μ, Dd, hH, sa, sr, gr, h, l⟩ => by
  subst hH
  refine lift_go sr gr h (fun n' v d μ' s' r' p q => ?_) (l.x sa gr)
  exact l.nx n' (Γ.set i (some d)) (σ.set i (some v)) μ' (sa.trans s') r' ((gr.step s').set p i) q
end
end DV
namespace DV
open PySem L2
def spOf (K : PySem.W.Frag) (S : DSp) : Sp := fun vs H Q E => ∃ n ds μ Qd Ed, n.H = H ∧ SR0 K n μ ∧ Reps K n.Hb n.al vs ds ∧ S ds μ Qd Ed ∧ LV K n Qd Q ∧
  (∀ n' cls dd x μ', Step n n' → SR0 K n' μ' → ExR K n n' cls dd x → Ed x μ' → E cls dd n'.H)
section
variable {X : Cx} {W : WX} {k : Nat} {f : Addr} {fd : FuncData} {ps : List Str} {S : DSp} {x : Str} {p pos : Pos} {e : Expr} {es : List Expr} {fr : DTA}
theorem call_go {K : PySem.W.Frag} (σ : St) (H : Hp) (Q : VK) (h : lift K W (dOp S fr) σ H Q) : liftA K W fr σ H fun vs H1 => spOf K S vs H1 Q (WE W σ) := by
  obtain ⟨n, Γ, μ, Qd, Ed, hH, sr, gr, h, hq, hx⟩ := h
  subst hH
  exact liftA_go sr gr h (fun n1 x dx μ1 s1 r1 p1 q1 => ⟨n1, dx, μ1, Qd, Ed, rfl, r1, p1, q1, LV.step hq s1, hx.step s1⟩) hx
theorem de_fn (F : FnOk X.prog X.w X.K X.mg X.base (L2N.CX X.prog X.w) k f fd ps (spOf X.K S)) (hr : Room k X.A) (hg : Gl X x) (hm : X.mg x = some (.ref f)) (hk : PySem.W.keepIn X.K (.ref f) = true) (hb : Binds X.K fd ps []) (tk : L2N.Takes X W)
    (ha : DA X W (e :: es) fr) (hdb : (x == ("__debug__" : Str)) = false := by decide) (he : starEach (e :: es) X.env = (false, eval e X.env) :: starEach es X.env := by rfl) (hpl : (backTo pos (starEach es X.env)).any (·.1) = false := by rfl) :
    DE X W (.Call (.Name x p) (e :: es) [] pos) (dOp S fr) := PE.imp (pe_callS (E := WE W) F hr hg hm hk hb (fun σ => L2N.passAt tk σ) ha hdb he hpl) (fun σ H Q h => call_go σ H Q h)
end
/-! ### a def's end -/
def Upd (μ μ1 : Mu) : Prop := μ1.length = μ.length ∧ ∀ (i : Nat) c, μ1[i]? = some c → μ[i]? = some c ∨ c.pu = true
theorem Upd.refl (μ : Mu) : Upd μ μ := ⟨rfl, fun _ _ h => .inl h⟩
theorem Upd.set {μ μ1 : Mu} (u : Upd μ μ1) {l : Nat} {c : Cell} (hc : c.pu = true) : Upd μ (μ1.set l c) := by
  refine ⟨by rw [List.length_set]; exact u.1, fun i d h => ?_⟩
  by_cases hi : l = i
  · subst hi
    by_cases hl : l < μ1.length
    · rw [List.getElem?_set_self hl] at h; cases h; exact .inr hc
    · rw [List.getElem?_eq_none (by simp; omega)] at h; cases h
  · rw [List.getElem?_set_ne hi] at h; exact u.2 i d h
mutual
/-- a tree over cells beyond m, with the cells taken as they stand -/
inductive Fz (m : Nat) (μ : Mu) : D → D → Prop
  | pu {d} : d.pu = true → Fz m μ d d
  | cell {l ds es} : m ≤ l → μ[l]? = some (.lst ds) → FzL m μ ds es → Fz m μ (.ref l) (.lst es)
  | dcell {l kvs es} : m ≤ l → μ[l]? = some (.dct kvs) → FzL m μ (kvs.map (·.2)) es → Fz m μ (.ref l) (.dct ((kvs.map (·.1)).zip es))
  | icell {l C fs es} : m ≤ l → μ[l]? = some (.ins C fs) → FzL m μ (fs.map (·.2)) es → Fz m μ (.ref l) (.ins C ((fs.map (·.1)).zip es))
  | lst {ds es} : FzL m μ ds es → Fz m μ (.lst ds) (.lst es)
  | tup {ds es} : FzL m μ ds es → Fz m μ (.tup ds) (.tup es)
inductive FzL (m : Nat) (μ : Mu) : List D → List D → Prop
  | nil : FzL m μ [] []
  | cons {d e ds es} : Fz m μ d e → FzL m μ ds es → FzL m μ (d :: ds) (e :: es)
end
def FnEnd (μ : Mu) (d : D) (μ' : Mu) (Q : D → Mu → Prop) : Prop := Q d μ' ∨ ∃ μ1 loc, μ' = μ1 ++ loc ∧ Upd μ μ1 ∧
  ((d.pu = true ∧ Q d μ1) ∨ (∃ l, d = .ref l ∧ l < μ1.length ∧ Q d μ1) ∨
   (∃ l ds, d = .ref (μ1.length + l) ∧ loc[l]? = some (.lst ds) ∧ D.puL ds = true ∧ Q (.ref μ1.length) (μ1 ++ [.lst ds])) ∨
   (∃ l ds, d = .ref (μ1.length + l) ∧ loc[l]? = some (.lst ds) ∧ D.puL ds = true ∧ Q (.lst ds) μ1) ∨
   (∃ l ds, d = .ref (μ1.length + l) ∧ loc[l]? = some (.dct ds) ∧ D.puK ds = true ∧ Q (.ref μ1.length) (μ1 ++ [.dct ds])) ∨
   (∃ l ds, d = .ref (μ1.length + l) ∧ loc[l]? = some (.dct ds) ∧ D.puK ds = true ∧ Q (.dct ds) μ1) ∨
   (∃ e, Fz μ1.length (μ1 ++ loc) d e ∧ Q e μ1))
def FnExc (μ : Mu) (x : Exn) (μ' : Mu) (E : Exn → Mu → Prop) : Prop := ∃ μ1 loc, μ' = μ1 ++ loc ∧ Upd μ μ1 ∧ D.puF x.fs = true ∧ E x μ1
def dFn (μ : Mu) (Q : D → Mu → Prop) (E : Exn → Mu → Prop) : DEnds := { nx := fun _ μ' => FnEnd μ .non μ' Q, rt := fun d μ' => FnEnd μ d μ' Q, ex := fun x _ μ' => FnExc μ x μ' E }
theorem FnEnd.here {μ μ' : Mu} {d : D} {Q : D → Mu → Prop} (q : Q d μ') : FnEnd μ d μ' Q := .inl q
section
variable {K : PySem.W.Frag} {A n : Now} {μ μ1 loc : Mu}
theorem exc_back {K' : PySem.W.Frag} {Hb Hb' : Hp} {al al' : List Addr} {us us0 : List (Str × V)} {fs : List (Str × D)} (p : al <+: al') (h5 : ∀ f, us0.lookup f = none ↔ fs.lookup f = none)
    (h4 : ∀ f v, us0.lookup f = some v → ∃ d, fs.lookup f = some d ∧ Rep K Hb al v d) (h3 : ∀ f v, us.lookup f = some v → ∃ d, fs.lookup f = some d ∧ Rep K' Hb' al' v d) :
    ∀ f v, us.lookup f = some v → ∃ d, fs.lookup f = some d ∧ Rep K' Hb' al v d := fun f v e => by
  obtain ⟨d, e1, e2⟩ := h3 f v e
  cases e0 : us0.lookup f with
  | none => rw [(h5 f).mp e0] at e1; cases e1
  | some v0 =>
    obtain ⟨d', e3, e4⟩ := h4 f v0 e0
    rw [e1] at e3; cases e3
    exact ⟨d, e1, Rep.back p e4 e2⟩
/-- the cells of the callee are let go -/
theorem trunc (s0 : SR0 K A μ) (st : Step A n) (sr : SR0 K n (μ1 ++ loc)) (u : Upd μ μ1) : SR0 K ⟨n.Hb, n.H, A.al, n.ph⟩ μ1 ∧ Step A ⟨n.Hb, n.H, A.al, n.ph⟩ := by
  have hl : A.al.length = μ1.length := s0.len.trans u.1.symm
  have hsub : ∀ a ∈ A.al, a ∈ n.al := fun a h => st.pre.subset h
  refine ⟨⟨sr.same, hl, s0.nd, fun i a c e1 e2 => ?_, fun a ha => sr.alh a (hsub a ha), fun i j x y e1 e2 => ?_, fun b hb => ?_⟩, ⟨st.same, List.prefix_refl _, st.newb, fun b h => .inl h, st.newp, st.keep, st.dom, st.fixd⟩⟩
  · have e1' : A.al[i]? = some a := e1
    have hi : i < μ1.length := by rw [← hl]; exact (List.getElem?_eq_some_iff.mp e1').1
    have e2' : (μ1 ++ loc)[i]? = some c := by rw [List.getElem?_append_left hi]; exact e2
    have q := sr.cell i a c (pre_get st.pre e1') e2'
    rcases u.2 i c e2 with h | h
    · have q0 := s0.cell i a c e1' h
      cases c with
      | gone => trivial
      | lst ds => obtain ⟨h0, vs, h1, h2⟩ := q; obtain ⟨_, vs0, _, h3⟩ := q0; exact ⟨h0, vs, h1, Reps.back st.pre h3 h2⟩
      | dct ds => obtain ⟨h0, vs, h1, hk, h2⟩ := q; obtain ⟨_, vs0, _, _, h3⟩ := q0; exact ⟨h0, vs, h1, hk, Reps.back st.pre h3 h2⟩
      | dtp ds => obtain ⟨h0, vs, h1, hk, h2⟩ := q; obtain ⟨_, vs0, _, _, h3⟩ := q0; exact ⟨h0, vs, h1, hk, Reps.back st.pre h3 h2⟩
      | exo C l => obtain ⟨h0, dxo, h1, h2⟩ := q; obtain ⟨_, d0, _, z⟩ := q0; exact ⟨h0, dxo, h1, z.back st.pre h2⟩
      | ins C ds => obtain ⟨h0, dx, vs, h1, hk, h2⟩ := q; obtain ⟨_, _, vs0, _, _, h3⟩ := q0; exact ⟨h0, dx, vs, h1, hk, Reps.back st.pre h3 h2⟩
      | orc k => exact q
      | xdc fs => obtain ⟨h0, us, h1, h2, h3⟩ := q; obtain ⟨_, us0, _, h5, h4⟩ := q0; exact ⟨h0, us, h1, h2, exc_back st.pre h5 h4 h3⟩
      | exc dd fs => obtain ⟨h0, he, us, h1, h2, h3⟩ := q; obtain ⟨_, _, us0, _, h5, h4⟩ := q0; exact ⟨h0, he, us, h1, h2, exc_back st.pre h5 h4 h3⟩
    · cases c with
      | gone => trivial
      | lst ds => obtain ⟨h0, vs, h1, h2⟩ := q; exact ⟨h0, vs, h1, h2.any h⟩
      | dct ds => obtain ⟨h0, vs, h1, hk, h2⟩ := q; exact ⟨h0, vs, h1, hk, h2.any (by rw [← puK_eq]; exact h)⟩
      | dtp ds => obtain ⟨h0, vs, h1, hk, h2⟩ := q; exact ⟨h0, vs, h1, hk, h2.any h⟩
      | exo C l => cases h
      | ins C ds => obtain ⟨h0, dx, vs, h1, hk, h2⟩ := q; exact ⟨h0, dx, vs, h1, hk, h2.any (by rw [← puF_eq]; exact h)⟩
      | orc k => exact q
      | xdc fs => obtain ⟨h0, us, h1, h2, h3⟩ := q; exact ⟨h0, us, h1, h2, fun f v e => let ⟨d, e1, e2⟩ := h3 f v e; ⟨d, e1, e2.any (puF_mem h e1)⟩⟩
      | exc dd fs => obtain ⟨h0, he, us, h1, h2, h3⟩ := q; exact ⟨h0, he, us, h1, h2, fun f v e => let ⟨d, e1, e2⟩ := h3 f v e; ⟨d, e1, e2.any (puF_mem h e1)⟩⟩
  · have q : ∀ (i : Nat) x, μ1[i]? = some (.orc x) → (μ1 ++ loc)[i]? = some (.orc x) := fun i x e => by
      rw [List.getElem?_append_left (List.getElem?_eq_some_iff.mp e).1]; exact e
    exact sr.orc1 i j x y (q i x e1) (q j y e2)
  · obtain ⟨h1, h2, h3⟩ := sr.phb b hb
    exact ⟨h1, fun z => h2 (hsub b z), h3⟩
theorem new_at (s0 : SR0 K A μ) (st : Step A n) (sr : SR0 K n (μ1 ++ loc)) (u : Upd μ μ1) {l : Nat} {a : Addr} (h : n.al[μ1.length + l]? = some a) : a ∉ A.al ∧ A.H a = none := by
  have h1 : a ∉ A.al := fun z => by
    obtain ⟨i, hi, e⟩ := List.getElem_of_mem z
    have e1 : A.al[i]? = some a := by rw [List.getElem?_eq_getElem hi, e]
    have := nodup_get sr.nd (pre_get st.pre e1) h
    have := s0.len
    have := u.1
    omega
  refine ⟨h1, ?_⟩
  rcases st.newa a (List.mem_of_getElem? h) with z | z
  · exact absurd z h1
  · exact z
/-- one of them becomes data -/
theorem frozen (s0 : SR0 K A μ) (st : Step A n) (sr : SR0 K n (μ1 ++ loc)) (u : Upd μ μ1) {l : Nat} {a : Addr} {o : HO} (h : n.al[μ1.length + l]? = some a) (ho : n.H a = some o) (hb : n.Hb a = none) :
    SR0 K ⟨upd n.Hb a o, n.H, A.al, n.ph⟩ μ1 ∧ Step A ⟨upd n.Hb a o, n.H, A.al, n.ph⟩ := by
  obtain ⟨t1, t2⟩ := trunc s0 st sr u
  obtain ⟨na, nH⟩ := new_at s0 st sr u h
  have su : Same n.Hb (upd n.Hb a o) := same_upd hb
  refine ⟨⟨fun b v e => ?_, t1.len, t1.nd, fun i b c e1 e2 => ?_, t1.alh, t1.orc1, fun b hb' => ?_⟩, ⟨t2.same.trans (Same.l su), t2.pre, fun b v e => ?_, t2.newa, t2.newp, t2.keep, t2.dom, t2.fixd⟩⟩
  · by_cases hba : b = a
    · subst hba
      have e' : upd n.Hb b o b = some v := e
      rw [upd_same] at e'; cases e'; exact ho
    · have e' : upd n.Hb a o b = some v := e
      rw [upd_ne hba] at e'; exact sr.same _ _ e'
  · have hne : b ≠ a := fun z => na (z ▸ List.mem_of_getElem? e1)
    exact (t1.cell i b c e1 e2).grow (n' := ⟨upd n.Hb a o, n.H, A.al, n.ph⟩) rfl (fun z => (upd_ne hne).trans z) su (List.prefix_refl _) rfl fun _ _ => rfl
  · obtain ⟨h1, h2, h3⟩ := t1.phb b hb'
    have hne : b ≠ a := fun z => by
      subst z
      exact (sr.phb b hb').2.1 (List.mem_of_getElem? h)
    exact ⟨(upd_ne hne).trans h1, h2, h3⟩
  · by_cases hba : b = a
    · subst hba; exact .inr (.inl nH)
    · have e' : upd n.Hb a o b = some v := e
      rw [upd_ne hba] at e'; exact t2.newb b v e'
/-- one of them is handed on -/
theorem handed (s0 : SR0 K A μ) (st : Step A n) (sr : SR0 K n (μ1 ++ loc)) (u : Upd μ μ1) {l : Nat} {a : Addr} {c : Cell} (h : n.al[μ1.length + l]? = some a) (hc : loc[l]? = some c) (hp : c.pu = true) (ho : ∀ k, c ≠ .orc k) :
    SR0 K ⟨n.Hb, n.H, A.al ++ [a], n.ph⟩ (μ1 ++ [c]) ∧ Step A ⟨n.Hb, n.H, A.al ++ [a], n.ph⟩ := by
  obtain ⟨t1, t2⟩ := trunc s0 st sr u
  obtain ⟨na, nH⟩ := new_at s0 st sr u h
  have hl : A.al.length = μ1.length := s0.len.trans u.1.symm
  refine ⟨⟨t1.same, by simp [hl], ?_, fun i b d e1 e2 => ?_, fun b hb => ?_, fun i j x y e1 e2 => ?_, fun b hb' => ?_⟩, ⟨t2.same, List.prefix_append _ _, t2.newb, fun b hb => ?_, t2.newp, t2.keep, t2.dom, t2.fixd⟩⟩
  · show (A.al ++ [a]).Nodup
    rw [List.nodup_append]
    exact ⟨s0.nd, by simp, fun b hb c hc z => by rw [List.mem_singleton.mp hc] at z; exact na (z ▸ hb)⟩
  · have e1' : (A.al ++ [a])[i]? = some b := e1
    by_cases hi : i < A.al.length
    · rw [List.getElem?_append_left hi] at e1'
      rw [List.getElem?_append_left (by rw [← hl]; exact hi)] at e2
      exact (t1.cell i b d e1' e2).grow (n' := ⟨n.Hb, n.H, A.al ++ [a], n.ph⟩) rfl (fun z => z) (Same.refl _) (List.prefix_append _ _) rfl fun _ _ => rfl
    · rw [List.getElem?_append_right (by omega)] at e1'
      rw [List.getElem?_append_right (by rw [← hl]; omega), ← hl] at e2
      have hz : i - A.al.length = 0 := by
        have := (List.getElem?_eq_some_iff.mp e1').1
        simp at this; omega
      rw [hz] at e1' e2
      simp at e1' e2
      subst e1'; subst e2
      have q := sr.cell (μ1.length + l) a c h (by rw [List.getElem?_append_right (by omega)]; simpa using hc)
      cases c with
      | gone => trivial
      | lst ds => obtain ⟨h0, vs, h1, h2⟩ := q; exact ⟨h0, vs, h1, h2.any hp⟩
      | dct ds => obtain ⟨h0, vs, h1, hk, h2⟩ := q; exact ⟨h0, vs, h1, hk, h2.any (by rw [← puK_eq]; exact hp)⟩
      | dtp ds => obtain ⟨h0, vs, h1, hk, h2⟩ := q; exact ⟨h0, vs, h1, hk, h2.any hp⟩
      | exo C l => cases hp
      | ins C ds => obtain ⟨h0, dx, vs, h1, hk, h2⟩ := q; exact ⟨h0, dx, vs, h1, hk, h2.any (by rw [← puF_eq]; exact hp)⟩
      | orc k => exact absurd rfl (ho k)
      | xdc fs => obtain ⟨h0, us, h1, h2, h3⟩ := q; exact ⟨h0, us, h1, h2, fun f v e => let ⟨d, e1, e2⟩ := h3 f v e; ⟨d, e1, e2.any (puF_mem hp e1)⟩⟩
      | exc dd fs => obtain ⟨h0, he, us, h1, h2, h3⟩ := q; exact ⟨h0, he, us, h1, h2, fun f v e => let ⟨d, e1, e2⟩ := h3 f v e; ⟨d, e1, e2.any (puF_mem hp e1)⟩⟩
  · rcases List.mem_append.mp hb with z | z
    · exact t1.alh b z
    · rw [List.mem_singleton.mp z]; exact sr.alh a (List.mem_of_getElem? h)
  · have q : ∀ (i : Nat) x, (μ1 ++ [c])[i]? = some (.orc x) → μ1[i]? = some (.orc x) := fun i x e => by
      by_cases hi : i < μ1.length
      · rw [List.getElem?_append_left hi] at e; exact e
      · rw [List.getElem?_append_right (by omega)] at e
        have hz : i - μ1.length = 0 := by
          have := (List.getElem?_eq_some_iff.mp e).1
          simp at this; omega
        rw [hz] at e; simp at e
        exact absurd e (ho x)
    exact t1.orc1 i j x y (q i x e1) (q j y e2)
  · obtain ⟨h1, h2, h3⟩ := t1.phb b hb'
    refine ⟨h1, fun z => ?_, h3⟩
    rcases List.mem_append.mp z with z | z
    · exact h2 z
    · rw [List.mem_singleton.mp z] at hb'
      exact (sr.phb a hb').2.1 (List.mem_of_getElem? h)
  · rcases List.mem_append.mp hb with z | z
    · exact .inl z
    · rw [List.mem_singleton.mp z]; exact .inr nH
/-- all of the callee's cells become data -/
def meltH (n : Now) (m : Nat) : Hp := fun a => if a ∈ n.al.drop m then n.H a else n.Hb a
theorem drop_idx {l : List Addr} {m : Nat} {a : Addr} (h : a ∈ l.drop m) : ∃ j, l[m + j]? = some a := by
  obtain ⟨j, hj, e⟩ := List.getElem_of_mem h
  refine ⟨j, ?_⟩
  rw [← List.getElem?_drop, List.getElem?_eq_getElem hj, e]
theorem melted (s0 : SR0 K A μ) (st : Step A n) (sr : SR0 K n (μ1 ++ loc)) (u : Upd μ μ1) :
    SR0 K ⟨meltH n μ1.length, n.H, A.al, n.ph⟩ μ1 ∧ Step A ⟨meltH n μ1.length, n.H, A.al, n.ph⟩ ∧ Same n.Hb (meltH n μ1.length) := by
  obtain ⟨t1, t2⟩ := trunc s0 st sr u
  have hl : A.al.length = μ1.length := s0.len.trans u.1.symm
  have nb : ∀ a, a ∈ n.al.drop μ1.length → a ∉ A.al ∧ A.H a = none := fun a h => by
    obtain ⟨j, e⟩ := drop_idx h
    exact new_at s0 st sr u e
  have su : Same n.Hb (meltH n μ1.length) := fun a o e => by
    unfold meltH
    split
    · exact sr.same _ _ e
    · exact e
  refine ⟨⟨fun b v e => ?_, t1.len, t1.nd, fun i b c e1 e2 => ?_, t1.alh, t1.orc1, fun b hb' => ?_⟩, ⟨t2.same.trans (Same.l su), t2.pre, fun b v e => ?_, t2.newa, t2.newp, t2.keep, t2.dom, t2.fixd⟩, su⟩
  · have e' : meltH n μ1.length b = some v := e
    unfold meltH at e'
    split at e'
    · exact e'
    · exact sr.same _ _ e'
  · have hne : b ∉ n.al.drop μ1.length := fun z => (nb b z).1 (List.mem_of_getElem? e1)
    exact (t1.cell i b c e1 e2).grow (n' := ⟨meltH n μ1.length, n.H, A.al, n.ph⟩) rfl (fun z => by show meltH n μ1.length b = none; unfold meltH; rw [if_neg hne]; exact z) su (List.prefix_refl _) rfl fun _ _ => rfl
  · obtain ⟨h1, h2, h3⟩ := t1.phb b hb'
    have hne : b ∉ n.al.drop μ1.length := fun z => (sr.phb b hb').2.1 (List.mem_of_mem_drop z)
    exact ⟨by show meltH n μ1.length b = none; unfold meltH; rw [if_neg hne]; exact h1, h2, h3⟩
  · have e' : meltH n μ1.length b = some v := e
    by_cases hm : b ∈ n.al.drop μ1.length
    · exact .inr (.inl (nb b hm).2)
    · unfold meltH at e'
      rw [if_neg hm] at e'
      exact t2.newb b v e'
theorem at_melt {m l : Nat} {a : Addr} {o : HO} (h : n.al[l]? = some a) (hm : m ≤ l) (ho : n.H a = some o) : meltH n m a = some o := by
  unfold meltH
  rw [if_pos]
  · exact ho
  · have : (n.al.drop m)[l - m]? = some a := by rw [List.getElem?_drop, show m + (l - m) = l from by omega]; exact h
    exact List.mem_of_getElem? this
mutual
theorem melt_rep {m : Nat} {al : List Addr} (sr : SR0 K n μ) (su : Same n.Hb (meltH n m)) : ∀ {d e : D}, Fz m μ d e → ∀ {v : V}, Rep K n.Hb n.al v d → Rep K (meltH n m) al v e
  | _, _, .pu h, _, r => (r.any h).mono su (List.prefix_refl _)
  | _, _, .cell hm e f, _, .ref hl => by
    obtain ⟨_, vs, h1, h2⟩ := sr.cell _ _ _ hl e
    exact .lst (at_melt hl hm h1) (melt_reps sr su f h2)
  | _, _, .dcell (kvs := kvs) hm e f, _, .ref hl => by
    obtain ⟨_, vs, h1, h2, h3⟩ := sr.cell _ _ _ hl e
    exact .dct (.inl (at_melt hl hm h1)) h2 (melt_reps sr su f h3)
  | _, _, .icell (fs := fs) hm e f, _, .ref hl => by
    obtain ⟨_, dx, vs, h1, h2, h3⟩ := sr.cell _ _ _ hl e
    exact .ins (at_melt hl hm h1) h2 (melt_reps sr su f h3)
  | _, _, .lst f, _, .lst h r => .lst (su _ _ h) (melt_reps sr su f r)
  | _, _, .tup f, _, .tup h r => .tup (su _ _ h) (melt_reps sr su f r)
theorem melt_reps {m : Nat} {al : List Addr} (sr : SR0 K n μ) (su : Same n.Hb (meltH n m)) : ∀ {d e : List D}, FzL m μ d e → ∀ {v : List V}, Reps K n.Hb n.al v d → Reps K (meltH n m) al v e
  | _, _, .nil, _, .nil => .nil
  | _, _, .cons f g, _, .cons r s => .cons (melt_rep sr su f r) (melt_reps sr su g s)
end
theorem zip_maps {α β γ : Type} (l : List (α × β)) (m : List (α × γ)) (h : l.map (·.1) = m.map (·.1)) : (m.map (·.1)).zip (l.map (·.2)) = l := by
  rw [← h]
  induction l with
  | nil => rfl
  | cons a l ih => exact (by simp only [List.map_cons, List.zip_cons_cons]; congr 1; exact List.zip_of_prod rfl rfl |>.symm ▸ rfl)
end
end DV
namespace DV
open PySem PySem.Spec PyProof.Rows L2
def start0 (N : List Str) (ds : List D) : Gam := ds.map some ++ List.replicate (N.length - ds.length) none
section
variable {K : PySem.W.Frag} {n : Now}
theorem gr_start {N : List Str} {vs : List V} {ds : List D} (r : Reps K n.Hb n.al vs ds) : GR K n (start0 N ds) (L2.start N vs) := by
  have hl := r.length
  refine ⟨by simp [start0, L2.start, hl], fun i d h => ?_⟩
  unfold start0 at h
  unfold L2.start
  by_cases hi : i < ds.length
  · rw [List.getElem?_append_left (by simpa using hi), List.getElem?_map] at h
    rw [List.getElem?_append_left (by simp [hl]; exact hi), List.getElem?_map]
    cases e : ds[i]? with
    | none => rw [e] at h; cases h
    | some d' =>
      rw [e] at h
      have h' : d' = d := by simpa using h
      subst h'
      obtain ⟨v, h1, h2⟩ := r.get e
      exact ⟨v, by rw [h1]; rfl, h2⟩
  · rw [List.getElem?_append_right (by simpa using hi)] at h
    have := List.mem_of_getElem? h
    rw [List.mem_replicate] at this
    exact absurd this.2 (by simp)
end
theorem fn_end {K : PySem.W.Frag} {A n : Now} {μ : Mu} {Qd : D → Mu → Prop} {Q : VK} (s0 : SR0 K A μ) (hq : LV K A Qd Q) {v : V} {d : D} {μ' : Mu} (st : Step A n) (sr : SR0 K n μ') (rp : Rep K n.Hb n.al v d) (h : FnEnd μ d μ' Qd) : Q v n.H := by
  rcases h with q | ⟨μ1, loc, rfl, u, h⟩
  · exact hq n v d μ' st sr rp q
  obtain ⟨t1, t2⟩ := trunc s0 st sr u
  have hl : A.al.length = μ1.length := s0.len.trans u.1.symm
  rcases h with ⟨hp, q⟩ | ⟨l, rfl, hlt, q⟩ | ⟨l, ds, rfl, e, hp, q⟩ | ⟨l, ds, rfl, e, hp, q⟩ | ⟨l, ds, rfl, e, hp, q⟩ | ⟨l, ds, rfl, e, hp, q⟩ | ⟨e, hf, q⟩
  · exact hq ⟨n.Hb, n.H, A.al, n.ph⟩ v d μ1 t2 t1 (rp.any hp) q
  · refine hq ⟨n.Hb, n.H, A.al, n.ph⟩ v (.ref l) μ1 t2 t1 ?_ q
    cases rp with
    | ref h1 =>
      refine .ref ?_
      show A.al[l]? = _
      obtain ⟨t, ht⟩ := st.pre
      rw [← ht, List.getElem?_append_left (by omega)] at h1
      exact h1
  rotate_right
  · obtain ⟨z1, z2, z3⟩ := melted s0 st sr u
    exact hq ⟨meltH n μ1.length, n.H, A.al, n.ph⟩ _ e _ z2 z1 (melt_rep sr z3 hf rp) q
  all_goals
    cases rp with
    | ref h1 =>
      have hc : (μ1 ++ loc)[μ1.length + l]? = loc[l]? := (by rw [List.getElem?_append_right (by omega)]; simp)
      rw [e] at hc
      have q1 := sr.cell _ _ _ h1 hc
      first
        | (obtain ⟨z1, z2⟩ := handed s0 st sr u h1 e hp (fun k z => by cases z)
           refine hq ⟨n.Hb, n.H, A.al ++ [_], n.ph⟩ _ (.ref μ1.length) _ z2 z1 (.ref ?_) q
           show (A.al ++ [_])[μ1.length]? = _
           rw [← hl]; simp)
        | (obtain ⟨hb, vs, hv, hr⟩ := q1
           obtain ⟨z1, z2⟩ := frozen s0 st sr u h1 hv hb
           refine hq ⟨upd n.Hb _ _, n.H, A.al, n.ph⟩ _ (.lst ds) _ z2 z1 (.lst upd_same ((hr.any hp).mono (same_upd hb) (List.prefix_refl _))) q)
        | (obtain ⟨hb, vs, hv, hk, hr⟩ := q1
           obtain ⟨z1, z2⟩ := frozen s0 st sr u h1 hv hb
           have hz : ds = (vs.map (·.1)).zip (ds.map (·.2)) := (zip_maps ds vs hk).symm
           refine hq ⟨upd n.Hb _ _, n.H, A.al, n.ph⟩ _ (.dct ds) _ z2 z1 ?_ q
           rw [hz]
           exact .dct (.inl upd_same) rfl ((hr.any (by rw [← puK_eq]; exact hp)).mono (same_upd hb) (List.prefix_refl _)))
theorem exr_trunc {K : PySem.W.Frag} {A n : Now} {al : List Addr} {cls : Value} {dd : Option Addr} {x : Exn} (h : ExR K A n cls dd x) (hp : D.puF x.fs = true) (hal : ∀ a ∈ al, a ∈ n.al) : ExR K A ⟨n.Hb, n.H, al, n.ph⟩ cls dd x := by
  obtain ⟨h1, h⟩ := h
  rcases h with h | ⟨a, us, h2, hA, hh, h3, h4, h5⟩
  · exact ⟨h1, .inl h⟩
  refine ⟨h1, .inr ⟨a, us, h2, hA, ⟨hh.1, fun z => hh.2.1 (hal a z), hh.2.2⟩, h3, h4, fun f v e => ?_⟩⟩
  obtain ⟨d, e1, e2⟩ := h5 f v e
  exact ⟨d, e1, e2.any (puF_mem hp e1)⟩
section
variable {P : Program} {w : World} {K : PySem.W.Frag} {mg : Str → Option Value} {base : Heap}
/-- THE RULE for a def, deep: its body's deep form, and the reading of it -/
theorem fun_deep {x qual : Str} {st : Stmt} {f : Addr} {fd : FuncData} {N ps : List Str} {k : Nat} {S : DSp} {T : DTS} (F : Fun K x qual st f fd) (Sc : FnScope N ps (defScope st)) (len : ∀ ds μ Q E, S ds μ Q E → ds.length = ps.length)
    (hb : ∀ (cdv : Value) (A : Around) (outer : List Env) (s : Shared) (H : Hp) (E : XK), Room k (A.deeper (envOfC qual (defScope st) s.heap.objs.size f cdv)) →
      DSs (cxOf (L2N.CX P w) P w K mg base N qual (defScope st) f cdv A outer s H E) (fun cls d _ H => E cls d H) (defBody st) T)
    (hr : ∀ ds μ Q E, S ds μ Q E → T (dFn μ Q E) (start0 N ds) μ) : FnOk P w K mg base (L2N.CX P w) (k + 1) f fd ps (spOf K S) := by
  obtain ⟨_, _, _, _, _, _, _, _, _, rfl, inK, code⟩ := F.ex
  refine fn_of inK code Sc (fun vs H Q E h => ?_) (fun A outer s H vs Q E room h => ⟨_, hb _ A outer s H E room, ?_⟩)
  · obtain ⟨n, ds, μ, Qd, Ed, _, _, r, h, _⟩ := h
    rw [r.length]; exact len ds μ Qd Ed h
  · obtain ⟨n, ds, μ, Qd, Ed, hH, sr, r, h, hq, hx⟩ := h
    subst hH
    refine ⟨n, n, start0 N ds, μ, dFn μ Qd Ed, rfl, Step.refl n, sr, gr_start r, hr ds μ Qd Ed h, ⟨fun n' Γ σ μ' s' r' _ q => ?_, fun _ _ _ _ _ _ _ q => q.elim, fun _ _ _ _ _ _ _ q => q.elim, fun n' v d μ' s' r' p q => ?_, fun n' Γ σ μ' cls dd y s' r' _ ex q => ?_⟩⟩
    · exact fn_end sr hq s' r' .non q
    · exact fn_end sr hq s' r' p q
    · obtain ⟨μ1, loc, rfl, u, hp, q⟩ := q
      obtain ⟨t1, t2⟩ := trunc sr s' r' u
      exact hx ⟨n'.Hb, n'.H, n.al, n'.ph⟩ cls dd y μ1 t2 t1 (exr_trunc ex hp fun a h => s'.pre.subset h) q
end
end DV
namespace DV
open PySem PySem.Spec PyProof.Rows L2
/-! ### what is walked -/
def Gd (src : Option (Nat × List D)) (μ : Mu) : Prop := match src with
  | none => True
  | some (l, ds) => μ[l]? = some (.lst ds)
/-- what a walk asks of a later look: what was fixed stays, the cells stand where they stood -/
structure SP (n n' : Now) : Prop where
  same : SameL n.Hb n'.Hb
  pre : n.al <+: n'.al
theorem Step.sp {n n' : Now} (s : Step n n') : SP n n' := ⟨s.same, s.pre⟩
theorem SP.rep {K : PySem.W.Frag} {n n' : Now} (s : SP n n') {v : V} {d : D} (h : Rep K n.Hb n.al v d) : Rep K n'.Hb n'.al v d := h.monoL s.same s.pre
theorem SP.trans {n n' n2 : Now} (a : SP n n') (b : SP n' n2) : SP n n2 := ⟨a.same.trans b.same, a.pre.trans b.pre⟩
structure DWalk (K : PySem.W.Frag) (n : Now) (J : It) (src : Option (Nat × List D)) (ds : List D) : Prop where
  goes : ∀ n2 μ2 i, SP n n2 → SR0 K n2 μ2 → Gd src μ2 → i < ds.length → J.go i n2.H
  stops : ∀ n2 μ2, SP n n2 → SR0 K n2 μ2 → Gd src μ2 → J.stop ds.length n2.H
  yields : ∀ n2 μ2 i x H' d, SP n n2 → SR0 K n2 μ2 → Gd src μ2 → ds[i]? = some d → J.yld i n2.H x H' → ∃ n3, n3.H = H' ∧ Step n2 n3 ∧ SR0 K n3 μ2 ∧ Rep K n3.Hb n3.al x d
theorem DWalk.step {K : PySem.W.Frag} {n n' : Now} {J : It} {src : Option (Nat × List D)} {ds : List D} (w : DWalk K n J src ds) (s : Step n n') : DWalk K n' J src ds :=
  ⟨fun n2 μ2 i s2 => w.goes n2 μ2 i (s.sp.trans s2), fun n2 μ2 s2 => w.stops n2 μ2 (s.sp.trans s2), fun n2 μ2 i x H' d s2 => w.yields n2 μ2 i x H' d (s.sp.trans s2)⟩
abbrev DTI := Gam → Mu → (Option (Nat × List D) → List D → Mu → Prop) → (Exn → Mu → Prop) → Prop
def liftI (K : PySem.W.Frag) (W : WX) (f : DTI) : TI := fun σ H R => ∃ n Γ μ Qd Ed, n.H = H ∧ SR0 K n μ ∧ GR K n Γ σ ∧ f Γ μ Qd Ed ∧
  (∀ n' src ds μ' J, Step n n' → SR0 K n' μ' → DWalk K n' J src ds → Qd src ds μ' → R J n'.H) ∧ XLink K W n Γ σ Ed
abbrev DI (X : Cx) (W : WX) (tg iter : Expr) (f : DTI) : Prop := PI X tg iter (liftI X.K W f)
/-- the signs of a text -/
def signs (z : Str) : List D := z.cps.toList.map fun c => D.str ⟨#[c]⟩
def dIter (f : DTE) : DTI := fun Γ μ Q E => f Γ μ (fun d μ1 => match d with
  | .lst ds => Q none ds μ1
  | .scr ns => Q none (ns.map D.int) μ1
  | .tup ds => Q none ds μ1
  | .str z => Q none (signs z) μ1
  | .ref l => (match μ1[l]? with | some (.lst ds) => Q (some (l, ds)) ds μ1 | _ => False)
  | _ => False) E
def irng (lo : Int) (n : Nat) : List D := (List.range n).map fun (i : Nat) => D.int (lo + i)
def dRange1 (f : DTE) : DTI := fun Γ μ Q E => f Γ μ (fun d μ1 => match d with
  | .int j => (-(2 ^ 62) ≤ j ∧ j < 2 ^ 62) ∧ Q none (irng 0 j.toNat) μ1
  | _ => False) E
def dRange2 (f g : DTE) : DTI := fun Γ μ Q E => f Γ μ (fun d μ1 => g Γ μ1 (fun e μ2 => match d, e with
  | .int i, .int j => (-(2 ^ 62) ≤ i ∧ i < 2 ^ 62 ∧ -(2 ^ 62) ≤ j ∧ j < 2 ^ 62) ∧ Q none (irng i (j - i).toNat) μ2
  | _, _ => False) E) E
section
variable {K : PySem.W.Frag} {n : Now} {μ : Mu}
theorem dw_list {a : Addr} {vs : List V} {ds : List D} (h : n.Hb a = some (.lst vs)) (r : Reps K n.Hb n.al vs ds) : DWalk K n (Itl K a) none ds := by
  have hl := r.length
  have w : Walk (Itl K a) vs.length (fun H => SqL K H a vs) (YAt vs) := walk_list
  have q : ∀ n2 μ2, SP n n2 → SR0 K n2 μ2 → SqL K n2.H a vs := fun n2 μ2 s sr => SqL.of (sr.same _ _ (s.same.lst h))
  refine ⟨fun n2 μ2 i s sr _ hi => w.goes i _ (hl ▸ hi) (q n2 μ2 s sr), fun n2 μ2 s sr _ => hl ▸ w.stops _ (q n2 μ2 s sr), fun n2 μ2 i x H' d s sr _ hd y => ?_⟩
  obtain ⟨rfl, hx⟩ := w.yields i _ x H' (hl ▸ (List.getElem?_eq_some_iff.mp hd).1) (q n2 μ2 s sr) y
  obtain ⟨v, h1, h2⟩ := r.get hd
  rw [hx] at h1; cases h1
  exact ⟨n2, rfl, Step.refl _, sr, s.rep h2⟩
theorem dw_scr {a : Addr} {ns : List Int} (h : SqL K n.Hb a (ns.map V.int)) : DWalk K n (Itl K a) none (ns.map D.int) := by
  have w : Walk (Itl K a) (ns.map V.int).length (fun H => SqL K H a (ns.map V.int)) (YAt (ns.map V.int)) := walk_list
  have hl : (ns.map V.int).length = (ns.map D.int).length := by simp
  have q : ∀ n2 μ2, SP n n2 → SR0 K n2 μ2 → SqL K n2.H a (ns.map V.int) := fun n2 μ2 s sr => sr.same.seq (s.same.seq h)
  refine ⟨fun n2 μ2 i s sr _ hi => w.goes i _ (hl ▸ hi) (q n2 μ2 s sr), fun n2 μ2 s sr _ => hl ▸ w.stops _ (q n2 μ2 s sr), fun n2 μ2 i x H' d s sr _ hd y => ?_⟩
  obtain ⟨rfl, hx⟩ := w.yields i _ x H' (hl ▸ (List.getElem?_eq_some_iff.mp hd).1) (q n2 μ2 s sr) y
  obtain ⟨v, h1, h2⟩ := (reps_ints (K := K) (Hb := n2.Hb) (al := n2.al) ns).get hd
  rw [hx] at h1; cases h1
  exact ⟨n2, rfl, Step.refl _, sr, h2⟩
theorem dw_tup {a : Addr} {vs : List V} {ds : List D} (h : n.Hb a = some (.tup vs)) (r : Reps K n.Hb n.al vs ds) : DWalk K n (Itt K a) none ds := by
  have hl := r.length
  have w : Walk (Itt K a) vs.length (fun H => SqT K H a vs) (YAt vs) := walk_tup
  have q : ∀ n2 μ2, SP n n2 → SR0 K n2 μ2 → SqT K n2.H a vs := fun n2 μ2 s sr => SqT.of (sr.same _ _ (s.same.tup h))
  refine ⟨fun n2 μ2 i s sr _ hi => w.goes i _ (hl ▸ hi) (q n2 μ2 s sr), fun n2 μ2 s sr _ => hl ▸ w.stops _ (q n2 μ2 s sr), fun n2 μ2 i x H' d s sr _ hd y => ?_⟩
  obtain ⟨rfl, hx⟩ := w.yields i _ x H' (hl ▸ (List.getElem?_eq_some_iff.mp hd).1) (q n2 μ2 s sr) y
  obtain ⟨v, h1, h2⟩ := r.get hd
  rw [hx] at h1; cases h1
  exact ⟨n2, rfl, Step.refl _, sr, s.rep h2⟩
theorem dw_str {z : Str} : DWalk K n (Its z) none (signs z) := by
  have hl : (signs z).length = z.cps.size := by simp [signs]
  have w : Walk (Its z) z.cps.size (fun _ => True) _ := walk_str
  refine ⟨fun n2 μ2 i s sr _ hi => w.goes i _ (hl ▸ hi) trivial, fun n2 μ2 s sr _ => hl ▸ w.stops _ trivial, fun n2 μ2 i x H' d s sr _ hd y => ?_⟩
  obtain ⟨rfl, c, hc, rfl⟩ := w.yields i _ x H' (hl ▸ (List.getElem?_eq_some_iff.mp hd).1) trivial y
  refine ⟨n2, rfl, Step.refl _, sr, ?_⟩
  have e : (signs z)[i]? = some (D.str ⟨#[c]⟩) := by
    unfold signs
    rw [List.getElem?_map, Array.getElem?_toList, hc]; rfl
  rw [hd] at e; cases e
  exact .str _
theorem dw_range {lo : Int} {k : Nat} : DWalk K n (Itr lo k) none (irng lo k) := by
  have hl : (irng lo k).length = k := by simp [irng]
  have w : Walk (Itr lo k) k (fun _ => True) _ := walk_range
  refine ⟨fun n2 μ2 i s sr _ hi => w.goes i _ (hl ▸ hi) trivial, fun n2 μ2 s sr _ => by rw [hl]; exact w.stops _ trivial, fun n2 μ2 i x H' d s sr _ hd y => ?_⟩
  have hi : i < k := hl ▸ (List.getElem?_eq_some_iff.mp hd).1
  obtain ⟨rfl, rfl⟩ := w.yields i _ x H' hi trivial y
  refine ⟨n2, rfl, Step.refl _, sr, ?_⟩
  have e : (irng lo k)[i]? = some (D.int (lo + i)) := by
    unfold irng
    rw [List.getElem?_map, List.getElem?_range hi]; rfl
  rw [hd] at e; cases e
  exact .int _
theorem dw_cell {l : Nat} {a : Addr} {ds : List D} (hl : n.al[l]? = some a) : DWalk K n (Itl K a) (some (l, ds)) ds := by
  have q : ∀ n2 μ2, SP n n2 → SR0 K n2 μ2 → Gd (some (l, ds)) μ2 → ∃ vs, SqL K n2.H a vs ∧ Reps K n2.Hb n2.al vs ds := fun n2 μ2 s sr g => by
    obtain ⟨_, vs, h1, h2⟩ := sr.cell l a (.lst ds) (pre_get s.pre hl) g
    exact ⟨vs, SqL.of h1, h2⟩
  have w : ∀ vs : List V, Walk (Itl K a) vs.length (fun H => SqL K H a vs) (YAt vs) := fun vs => walk_list
  refine ⟨fun n2 μ2 i s sr g hi => ?_, fun n2 μ2 s sr g => ?_, fun n2 μ2 i x H' d s sr g hd y => ?_⟩
  · obtain ⟨vs, h1, h2⟩ := q n2 μ2 s sr g
    exact (w vs).goes i _ (h2.length ▸ hi) h1
  · obtain ⟨vs, h1, h2⟩ := q n2 μ2 s sr g
    exact h2.length ▸ (w vs).stops _ h1
  · obtain ⟨vs, h1, h2⟩ := q n2 μ2 s sr g
    obtain ⟨rfl, hx⟩ := (w vs).yields i _ x H' (h2.length ▸ (List.getElem?_eq_some_iff.mp hd).1) h1 y
    obtain ⟨v, e1, e2⟩ := h2.get hd
    rw [hx] at e1; cases e1
    exact ⟨n2, rfl, Step.refl _, sr, e2⟩
end
def iAny (K : PySem.W.Frag) (tl : TE) : TI := fun σ H R => tl σ H fun x H1 => (∃ a, x = .ref a ∧ (∃ xs, SqL K H1 a xs) ∧ R (Itl K a) H1) ∨ (∃ a, x = .ref a ∧ (∃ xs, SqT K H1 a xs) ∧ R (Itt K a) H1) ∨ ∃ z, x = .str z ∧ R (Its z) H1
section
variable {X : Cx} {W : WX} {tg e a b : Expr} {p pos : Pos} {f g : DTE}
theorem pi_any {tl : TE} (hl : PE X e tl) : PI X tg e (iAny X.K tl) := by
  constructor
  intro pins s σ H R I h
  refine thn (hl.run pins s σ H _ I h) ?_
  rintro v s1 ⟨x, H1, I1, r1, q1⟩
  rcases q1 with ⟨a, rfl, ⟨xs, hq⟩, q⟩ | ⟨a, rfl, ⟨xs, hq⟩, q⟩ | ⟨z, rfl, q⟩
  · cases r1
    obtain ⟨its, rv, pl, hz⟩ := I1.list hq
    exact wpAny_pyIter_list pl.isList (pi_one (tk := s1.toks) I1 _ (turn_list a _) ⟨_, Heap.get?_push_size _ rfl, rfl, rfl⟩ q)
  · cases r1
    obtain ⟨its, rv, pl, hz⟩ := I1.tuple hq
    exact wpAny_pyIter_tuple (show s1.heap.IsTuple a its.toArray from pl) (pi_one (tk := s1.toks) I1 _ (turn_tuple a _) ⟨_, Heap.get?_push_size _ rfl, rfl, rfl⟩ q)
  · obtain ⟨t, rfl⟩ := r1
    cases ha : z.cps.all (· < 128) with
    | false => exact wpAny_pyIter_wide ha (pi_one (tk := s1.toks) I1 _ (turn_str _ z t "str_iterator" (.inr rfl)) ⟨_, Heap.get?_push_size _ rfl, rfl, rfl⟩ q)
    | true => exact wpAny_pyIter_ascii ha (pi_one (tk := s1.toks) I1 _ (turn_str _ z t "str_ascii_iterator" (.inl rfl)) ⟨_, Heap.get?_push_size _ rfl, rfl, rfl⟩ q)
theorem PI.imp {t t' : TI} (h : PI X tg e t) (hi : ∀ σ H R, t' σ H R → t σ H R) : PI X tg e t' := ⟨fun pins s σ H R I q => h.run pins s σ H R I (hi _ _ _ q)⟩
theorem di_any (h : DE X W e f) : DI X W tg e (dIter f) := PI.imp (pi_any h) fun σ H R ⟨n, Γ, μ, Qd, Ed, hH, sr, gr, h, hq, hx⟩ => by
  subst hH
  refine lift_go sr gr h (fun n1 x dx μ1 s1 r1 p1 q1 => ?_) hx
  cases p1 with
  | lst h1 h2 => exact .inl ⟨_, rfl, ⟨_, SqL.of (r1.same _ _ h1)⟩, hq n1 _ _ μ1 _ s1 r1 (dw_list h1 h2) q1⟩
  | tup h1 h2 => exact .inr (.inl ⟨_, rfl, ⟨_, SqT.of (r1.same _ _ h1)⟩, hq n1 _ _ μ1 _ s1 r1 (dw_tup h1 h2) q1⟩)
  | scr h1 => exact .inl ⟨_, rfl, ⟨_, r1.same.seq h1⟩, hq n1 _ _ μ1 _ s1 r1 (dw_scr h1) q1⟩
  | str z => exact .inr (.inr ⟨_, rfl, hq n1 _ _ μ1 _ s1 r1 dw_str q1⟩)
  | @ref l a hl =>
    dsimp only at q1
    split at q1
    · rename_i ds e
      obtain ⟨_, vs, e1, e2⟩ := r1.cell _ _ _ hl e
      exact .inl ⟨_, rfl, ⟨_, SqL.of e1⟩, hq n1 _ _ μ1 _ s1 r1 (dw_cell hl) q1⟩
    · exact q1.elim
  | _ => exact q1.elim
theorem di_range1 (hg : Gl X "range") (hm : X.mg "range" = none) (ha : DE X W a f) (hs : starEach [a] X.env = [(false, eval a X.env)] := by rfl) (hs2 : starEach [a] X.env = (false, eval a X.env) :: starEach [] X.env := by rfl) : DI X W tg (.Call (.Name "range" p) [a] [] pos) (dRange1 f) :=
  PI.imp (pi_range1 hg hm (pa_cons ha pa_nil hs2) hs) fun σ H R ⟨n, Γ, μ, Qd, Ed, hH, sr, gr, h, hq, hx⟩ => by
  subst hH
  refine lift_go sr gr h (fun n1 x dx μ1 s1 r1 p1 q1 => ?_) hx
  cases p1 with
  | int j => exact ⟨j, rfl, q1.1.1, q1.1.2, hq n1 _ _ μ1 _ s1 r1 dw_range q1.2⟩
  | _ => exact q1.elim
end
/-! ### for -/
def dLoop (src : Option (Nat × List D)) (g : DTG) (body : DTS) : List D → DEnds → Gam → Mu → Prop
  | [], D, Γ, μ => Gd src μ ∧ D.nx Γ μ
  | d :: ds, D, Γ, μ => Gd src μ ∧ g d Γ μ (fun Γ1 μ1 => body { D with nx := dLoop src g body ds D, ct := dLoop src g body ds D, bk := D.nx } Γ1 μ1) (fun x μ1 => D.ex x Γ μ1)
def dFor (fi : DTI) (g : DTG) (body : DTS) : DTS := fun D Γ μ => fi Γ μ (fun src ds μ1 => dLoop src g body ds D Γ μ1) (fun x μ1 => D.ex x Γ μ1)
section
variable {X : Cx} {W : WX} {tg iter c : Expr} {body : List Stmt} {pos : Pos} {fi : DTI} {g : DTG} {T : DTS} {t : DTT}
theorem ds_for (hp : PassesOwn (model X.prog X.w) X.A X.env X.xe) (hc : X.calm = true) (hi : DI X W tg iter fi) (hg : DG X W tg g) (hb : DSs X W body T)
    (hs : ∀ x, foldedSetIterable iter X.env x = pure x := by intro _; rfl) : DS X W (.For tg iter body [] pos) (dFor fi g T) :=
  PS.imp (ps_for hp hc hi hg hb hs) fun Dn σ H ⟨A, n, Γ, μ, Dd, hH, sa, sr, gr, h, l⟩ => by
  subst hH
  refine ⟨n, Γ, μ, _, _, rfl, sr, gr, h, fun n1 src ds μ1 J s1 r1 w q => ?_, l.x sa gr⟩
  -- the walk
  let Pv : Nat → L2.St → Hp → Prop := fun i σ' H' => ∃ n2 Γ2 μ2, n2.H = H' ∧ Step n1 n2 ∧ SR0 X.K n2 μ2 ∧ GR X.K n2 Γ2 σ' ∧ dLoop src g T (ds.drop i) Dd Γ2 μ2
  have hG : ∀ i Γ2 μ2, dLoop src g T (ds.drop i) Dd Γ2 μ2 → Gd src μ2 := fun i Γ2 μ2 z => by
    cases hd : ds.drop i with
    | nil => rw [hd] at z; exact z.1
    | cons d r => rw [hd] at z; exact z.1
  refine ⟨fun i m σ' H' => m = ds.length - i ∧ i ≤ ds.length ∧ Pv i σ' H', ⟨ds.length, by simp, Nat.zero_le _, n1, Γ, μ1, rfl, Step.refl _, r1, gr.step s1, q⟩, ?_⟩
  rintro i m σ' H' ⟨rfl, hi, n2, Γ2, μ2, rfl, s2, r2, g2, q2⟩
  have gd := hG i Γ2 μ2 q2
  by_cases hlt : i < ds.length
  · refine .inr ⟨w.goes n2 μ2 i s2.sp r2 gd hlt, Pv (i + 1), fun σ3 H3 p3 => ⟨ds.length - (i + 1), by omega, rfl, hlt, p3⟩, fun x H3 y => ?_⟩
    rw [List.drop_eq_getElem_cons hlt] at q2
    obtain ⟨n3, rfl, s3, r3, p3⟩ := w.yields n2 μ2 i x H3 ds[i] s2.sp r2 gd (by rw [List.getElem?_eq_getElem hlt]) y
    have st3 : Step A n3 := ((sa.trans s1).trans s2).trans s3
    refine ⟨n3, ds[i], Γ2, μ2, _, _, rfl, r3, g2.step s3, p3, q2.2, fun n4 Γ4 σ4 μ4 s4 r4 g4 q4 => ?_, l.x st3 (g2.step s3)⟩
    -- the body; its way back goes through n4
    refine liftS_go (A := n1) ((s2.trans s3).trans s4) r4 g4 q4 ⟨fun n5 Γ5 σ5 μ5 s5 r5 g5 q5 => ⟨n5, Γ5, μ5, rfl, s5, r5, g5, q5⟩, fun n5 Γ5 σ5 μ5 s5 r5 g5 q5 => l.nx n5 Γ5 σ5 μ5 ((sa.trans s1).trans s5) r5 g5 q5, fun n5 Γ5 σ5 μ5 s5 r5 g5 q5 => ⟨n5, Γ5, μ5, rfl, s5, r5, g5, q5⟩,
      fun n5 v d μ5 s5 r5 p5 q5 => l.rt n5 v d μ5 ((sa.trans s1).trans s5) r5 p5 q5, fun n5 Γ5 σ5 μ5 cls dd x s5 r5 g5 e5 q5 => l.ex n5 Γ5 σ5 μ5 cls dd x ((sa.trans s1).trans s5) r5 g5 (e5.anchor (sa.trans s1)) q5⟩
  · have e : i = ds.length := by omega
    subst e
    rw [List.drop_length] at q2
    exact .inl ⟨w.stops n2 μ2 s2.sp r2 gd, l.nx n2 Γ2 σ' μ2 ((sa.trans s1).trans s2) r2 g2 q2.2⟩
/-- while: by turns told ahead -/
def dWhileN (t : DTT) (body : DTS) : Nat → DEnds → Gam → Mu → Prop
  | 0, _, _, _ => False
  | m + 1, D, Γ, μ => t Γ μ (fun c μ1 => cond c (body { D with nx := dWhileN t body m D, ct := dWhileN t body m D, bk := D.nx } Γ μ1) (D.nx Γ μ1)) (fun x μ1 => D.ex x Γ μ1)
def dWhile (t : DTT) (body : DTS) : DTS := fun D Γ μ => ∃ m, dWhileN t body m D Γ μ
theorem ds_while (hp : PassesOwn (model X.prog X.w) X.A X.env X.xe) (hc : DT X W c t) (hb : DSs X W body T) : DS X W (.While c body [] pos) (dWhile t T) :=
  PS.imp (ps_while hp hc hb) fun Dn σ H ⟨A, n, Γ, μ, Dd, hH, sa, sr, gr, ⟨m, h⟩, l⟩ => by
  subst hH
  refine ⟨fun m σ' H' => ∃ n2 Γ2 μ2, n2.H = H' ∧ Step A n2 ∧ SR0 X.K n2 μ2 ∧ GR X.K n2 Γ2 σ' ∧ dWhileN t T m Dd Γ2 μ2, ⟨m, n, Γ, μ, rfl, sa, sr, gr, h⟩, ?_⟩
  rintro m σ' H' ⟨n2, Γ2, μ2, rfl, s2, r2, g2, q2⟩
  cases m with
  | zero => exact q2.elim
  | succ m =>
    refine liftT_go r2 g2 q2 (fun n3 b μ3 s3 r3 q3 => ?_) (l.x s2 g2)
    cases b with
    | false => exact iteF (l.nx n3 Γ2 σ' μ3 (s2.trans s3) r3 (g2.step s3) q3)
    | true =>
      refine iteT ⟨fun σ4 H4 => ∃ n4 Γ4 μ4, n4.H = H4 ∧ Step A n4 ∧ SR0 X.K n4 μ4 ∧ GR X.K n4 Γ4 σ4 ∧ dWhileN t T m Dd Γ4 μ4, fun σ4 H4 z => ⟨m, Nat.lt_succ_self m, z⟩, ?_⟩
      exact liftS_go (s2.trans s3) r3 (g2.step s3) q3 ⟨fun n5 Γ5 σ5 μ5 s5 r5 g5 q5 => ⟨n5, Γ5, μ5, rfl, s5, r5, g5, q5⟩, l.nx, fun n5 Γ5 σ5 μ5 s5 r5 g5 q5 => ⟨n5, Γ5, μ5, rfl, s5, r5, g5, q5⟩, l.rt, l.ex⟩
end
end DV
namespace DV
open PySem PySem.Spec PyProof.Rows L2
abbrev W0 : WX := fun _ _ _ _ => False
def wipeG (Γ : Gam) : List Nat → Gam
  | [] => Γ
  | v :: vs => (wipeG Γ vs).set v none
theorem GR.unset {K : PySem.W.Frag} {n : Now} {Γ : Gam} {σ : L2.St} (g : GR K n Γ σ) (i : Nat) : GR K n (Γ.set i none) (σ.set i none) := by
  refine ⟨by simp [g.len], fun j e h => ?_⟩
  by_cases hj : i = j
  · subst hj
    by_cases hl : i < Γ.length
    · rw [List.getElem?_set_self hl] at h; cases h
    · rw [List.getElem?_eq_none (by simp; omega)] at h; cases h
  · rw [List.getElem?_set_ne hj] at h ⊢
    exact g.at_ j e h
theorem GR.wipe {K : PySem.W.Frag} {n : Now} {Γ : Gam} {σ : L2.St} (g : GR K n Γ σ) : ∀ vs, GR K n (wipeG Γ vs) (L2.wipe σ vs)
  | [] => g
  | v :: vs => (GR.wipe g vs).unset v
/-- slots outside vs agree -/
theorem wipe_get (σ : L2.St) : ∀ (vs : List Nat) (k : Nat), (L2.wipe σ vs)[k]? = if k ∈ vs then (if k < σ.length then some none else none) else σ[k]?
  | [], k => by simp [L2.wipe]
  | v :: vs, k => by
    have ih := wipe_get σ vs k
    have hl := L2.wipe_length σ vs
    show ((L2.wipe σ vs).set v none)[k]? = _
    by_cases hk : v = k
    · subst hk
      simp only [List.mem_cons, true_or, if_true]
      by_cases hl2 : v < σ.length
      · rw [List.getElem?_set_self (by omega), if_pos hl2]
      · rw [List.getElem?_eq_none (by simp; omega), if_neg hl2]
    · rw [List.getElem?_set_ne hk, ih]
      have : (k ∈ v :: vs) ↔ k ∈ vs := by simp [Ne.symm hk]
      simp only [this]
theorem wipe_eq {σ σ' : L2.St} {vs : List Nat} (hl : σ'.length = σ.length) (h : ∀ k, k ∉ vs → σ'[k]? = σ[k]?) : L2.wipe σ' vs = L2.wipe σ vs := by
  apply List.ext_getElem?
  intro k
  rw [wipe_get, wipe_get, hl]
  split
  · rfl
  · rename_i hk; exact h k hk
/-- a comprehension's target -/
def CT (K : PySem.W.Frag) (vs : List Nat) (g : TG) (gd : D → Gam → Mu → (Gam → Prop) → Prop) : Prop :=
  ∀ n μ v d Γ σ (Qd : Gam → Prop) Q, SR0 K n μ → GR K n Γ σ → Rep K n.Hb n.al v d → gd d Γ μ Qd → (∀ Γ' σ', GR K n Γ' σ' → σ'.length = σ.length → (∀ k, k ∉ vs → σ'[k]? = σ[k]?) → Qd Γ' → Q σ' n.H) → g v σ n.H Q
def cName (i : Nat) : D → Gam → Mu → (Gam → Prop) → Prop := fun d Γ _ Q => Q (Γ.set i (some d))
theorem ct_name {K : PySem.W.Frag} {vs : List Nat} {i : Nat} (hi : i ∈ vs) : CT K vs (gName i) (cName i) := fun n μ v d Γ σ Qd Q sr gr rp h hq =>
  hq _ _ (gr.set rp i) (by simp) (fun k hk => List.getElem?_set_ne (show i ≠ k from fun z => hk (z ▸ hi))) h
/-- (x, y) as a target: a tuple of two -/
def cPair (i j : Nat) : D → Gam → Mu → (Gam → Prop) → Prop := fun d Γ _ Q => match d with
  | .tup [x, y] => Q ((Γ.set i (some x)).set j (some y))
  | _ => False
section
variable {K : PySem.W.Frag} {n n1 : Now} {μ : Mu} {p : Addr} {o : HO}
structure Hid (n : Now) (p : Addr) : Prop where
  b : n.Hb p = none
  a : p ∉ n.al
  ph : p ∉ n.ph
theorem SR0.other (s : SR0 K n μ) (h : Hid n p) : SR0 K (n.more p o) μ := by
  refine ⟨fun b u e => ?_, s.len, s.nd, fun i a c e1 e2 => ?_, fun a ha => ?_, s.orc1, fun b hb' => ?_⟩
  · show upd n.H p o b = _
    rw [upd_ne (ne_of_none e h.b)]; exact s.same _ _ e
  · have hne : a ≠ p := fun z => h.a (z ▸ List.mem_of_getElem? e1)
    exact (s.cell i a c e1 e2).grow (n' := n.more p o) (upd_ne hne) (fun z => z) (Same.refl _) (List.prefix_refl _) rfl fun b hb' => upd_ne fun z => h.ph (z ▸ hb')
  · have hne : a ≠ p := fun z => h.a (z ▸ ha)
    show upd n.H p o a ≠ none
    rw [upd_ne hne]; exact s.alh a ha
  · have hne : b ≠ p := fun z => h.ph (z ▸ hb')
    obtain ⟨h1, h2, h3⟩ := s.phb b hb'
    exact ⟨h1, h2, by show upd n.H p o b ≠ none; rw [upd_ne hne]; exact h3⟩
theorem Step.other (s : Step n1 n) (h : n1.H p = none) : Step n1 (n.more p o) where
  same := s.same
  pre := s.pre
  newb := s.newb
  newa := s.newa
  newp := s.newp
  keep := fun b u e h0 h1 h2 => by show upd n.H p o b = _; rw [upd_ne (ne_of_none e h)]; exact s.keep b u e h0 h1 h2
  dom := fun b e => by
    by_cases hb : b = p
    · subst hb; exact h
    · refine s.dom b ?_
      rw [← e]; exact (upd_ne hb).symm
  fixd := fun b vs e1 e => by show upd n.H p o b = _; rw [upd_ne (ne_of_none e h)]; exact s.fixd b vs e1 e
theorem Hid.step {n' : Now} (h : Hid n p) (hp : n.H p = some o) (s : Step n n') (nt : ∀ vs, o ≠ .tup vs := by intro _ z; cases z) : Hid n' p ∧ n'.H p = some o := by
  refine ⟨⟨?_, fun z => ?_, fun z => ?_⟩, s.keep p o hp h.b h.a h.ph⟩
  · cases e : n'.Hb p with
    | none => rfl
    | some u =>
      rcases s.newb p u e with z | z | z | ⟨vs, _, z | z⟩
      · exact absurd h.b z
      · rw [hp] at z; cases z
      · exact absurd z h.a
      · rw [hp] at z; exact absurd (Option.some.inj z) (nt vs)
      · exact absurd z h.ph
  · rcases s.newa p z with z | z
    · exact h.a z
    · rw [hp] at z; cases z
  · rcases s.newp p z with z | z
    · exact h.ph z
    · rw [hp] at z; cases z
theorem SR0.adopt (s : SR0 K n μ) (h : Hid n p) (hp : n.H p = some o) : SR0 K ⟨upd n.Hb p o, n.H, n.al, n.ph⟩ μ := by
  refine ⟨fun b u e => ?_, s.len, s.nd, fun i a c e1 e2 => ?_, s.alh, s.orc1, fun b hb' => ?_⟩
  · have e' : upd n.Hb p o b = some u := e
    by_cases hb : b = p
    · subst hb; rw [upd_same] at e'; cases e'; exact hp
    · rw [upd_ne hb] at e'; exact s.same _ _ e'
  · have hne : a ≠ p := fun z => h.a (z ▸ List.mem_of_getElem? e1)
    exact (s.cell i a c e1 e2).grow (n' := ⟨upd n.Hb p o, n.H, n.al, n.ph⟩) rfl (fun z => (upd_ne hne).trans z) (same_upd h.b) (List.prefix_refl _) rfl fun _ _ => rfl
  · have hne : b ≠ p := fun z => h.ph (z ▸ hb')
    obtain ⟨h1, h2, h3⟩ := s.phb b hb'
    exact ⟨(upd_ne hne).trans h1, h2, h3⟩
theorem Step.adopt (s : Step n1 n) (h1 : n1.H p = none) (h : Hid n p) : Step n1 ⟨upd n.Hb p o, n.H, n.al, n.ph⟩ where
  same := s.same.trans (Same.l (same_upd h.b))
  pre := s.pre
  newb := fun b u e => by
    have e' : upd n.Hb p o b = some u := e
    by_cases hb : b = p
    · subst hb; exact .inr (.inl h1)
    · rw [upd_ne hb] at e'; exact s.newb b u e'
  newa := s.newa
  newp := s.newp
  keep := s.keep
  dom := s.dom
  fixd := s.fixd
theorem SR0.adoptC (s : SR0 K n μ) (h : Hid n p) (hp : n.H p = some o) {c : Cell} (hc : CellAt K ⟨n.Hb, n.H, n.al ++ [p], n.ph⟩ p c) (ho : ∀ k, c ≠ .orc k) : SR0 K ⟨n.Hb, n.H, n.al ++ [p], n.ph⟩ (μ ++ [c]) := by
  refine ⟨s.same, by simp [s.len], ?_, fun i a d e1 e2 => ?_, fun a ha => ?_, fun i j x y e1 e2 => ?_, fun b hb' => ?_⟩
  · show (n.al ++ [p]).Nodup
    rw [List.nodup_append]
    exact ⟨s.nd, by simp, fun a ha b hb z => by rw [List.mem_singleton.mp hb] at z; exact h.a (z ▸ ha)⟩
  · have e1' : (n.al ++ [p])[i]? = some a := e1
    by_cases hi : i < n.al.length
    · rw [List.getElem?_append_left hi] at e1'
      rw [List.getElem?_append_left (by rw [← s.len]; exact hi)] at e2
      exact (s.cell i a d e1' e2).grow (n' := ⟨n.Hb, n.H, n.al ++ [p], n.ph⟩) rfl (fun z => z) (Same.refl _) (List.prefix_append _ _) rfl fun _ _ => rfl
    · rw [List.getElem?_append_right (by omega)] at e1'
      rw [List.getElem?_append_right (by rw [← s.len]; omega), ← s.len] at e2
      have hz : i - n.al.length = 0 := by
        have := (List.getElem?_eq_some_iff.mp e1').1
        simp at this; omega
      rw [hz] at e1' e2
      simp at e1' e2
      subst e1'; subst e2
      exact hc
  · rcases List.mem_append.mp ha with z | z
    · exact s.alh a z
    · rw [List.mem_singleton.mp z]
      show n.H p ≠ none
      rw [hp]; simp
  · have q : ∀ (i : Nat) x, (μ ++ [c])[i]? = some (.orc x) → μ[i]? = some (.orc x) := fun i x e => by
      by_cases hi : i < μ.length
      · rw [List.getElem?_append_left hi] at e; exact e
      · rw [List.getElem?_append_right (by omega)] at e
        have hz : i - μ.length = 0 := by
          have := (List.getElem?_eq_some_iff.mp e).1
          simp at this; omega
        rw [hz] at e; simp at e
        exact absurd e (ho x)
    exact s.orc1 i j x y (q i x e1) (q j y e2)
  · obtain ⟨h1, h2, h3⟩ := s.phb b hb'
    refine ⟨h1, fun z => ?_, h3⟩
    rcases List.mem_append.mp z with z | z
    · exact h2 z
    · exact h.ph (List.mem_singleton.mp z ▸ hb')
theorem Step.adoptC (s : Step n1 n) (h1 : n1.H p = none) : Step n1 ⟨n.Hb, n.H, n.al ++ [p], n.ph⟩ where
  same := s.same
  pre := s.pre.trans (List.prefix_append _ _)
  newb := s.newb
  newa := fun b hb => by
    rcases List.mem_append.mp hb with z | z
    · exact s.newa b z
    · rw [List.mem_singleton.mp z]; exact .inr h1
  newp := s.newp
  keep := s.keep
  dom := s.dom
  fixd := s.fixd
end
/-! ### comprehensions -/
def dYes : DTT := fun _ μ Q _ => Q true μ
def dCompL (src : Option (Nat × List D)) (g : D → Gam → Mu → (Gam → Prop) → Prop) (tt : DTT) (te : DTE) (Γ : Gam) : List D → List D → Mu → (List D → Mu → Prop) → Prop
  | [], acc, μ, Q => Gd src μ ∧ Q acc μ
  | d :: ds, acc, μ, Q => Gd src μ ∧ g d Γ μ fun Γ1 => tt Γ1 μ (fun b μ2 => cond b (te Γ1 μ2 (fun y μ3 => acc.length < sizeLine ∧ dCompL src g tt te Γ ds (acc ++ [y]) μ3 Q) (fun _ _ => False)) (dCompL src g tt te Γ ds acc μ2 Q)) (fun _ _ => False)
/-- as data (fz), or as a cell -/
def dFin (fz : Bool) (acc : List D) (μ : Mu) (Q : D → Mu → Prop) : Prop := match fz with
  | true => Q (.lst acc) μ
  | false => Q (.ref μ.length) (μ ++ [.lst acc])
def dComp (fz : Bool) (vs : List Nat) (fi : DTI) (g : D → Gam → Mu → (Gam → Prop) → Prop) (tt : DTT) (te : DTE) : DTE := fun Γ μ Q E => fi Γ μ (fun src ds μ1 => dCompL src g tt te (wipeG Γ vs) ds [] μ1 fun acc μ2 => dFin fz acc μ2 Q) E
theorem comp_go {K : PySem.W.Frag} {W : WX} {fz : Bool} {vs : List Nat} {fi : DTI} {g : TG} {gd : D → Gam → Mu → (Gam → Prop) → Prop} {tt : DTT} {te : DTE} (hg : CT K vs g gd) (σ : L2.St) (H : Hp) (Q : VK) (h : lift K W (dComp fz vs fi gd tt te) σ H Q) :
    tLc (liftI K W fi) g (liftT K W0 tt) (lift K W0 te) vs σ H Q := by
  obtain ⟨n, Γ, μ, Qd, Ed, hH, sr, gr, h, hq, hx⟩ := h
  subst hH
  refine ⟨n, Γ, μ, _, _, rfl, sr, gr, h, fun n1 src ds μ1 J s1 r1 w q p hp => ?_, hx⟩
  have gw := (gr.step s1).wipe vs
  refine ⟨fun i m H' => m = ds.length - i ∧ i ≤ ds.length ∧ ∃ n2 μ2 acc avs, n2.H = H' ∧ Step n1 n2 ∧ SR0 K n2 μ2 ∧ Hid n2 p ∧ n2.H p = some (.lst avs) ∧ Reps K n2.Hb n2.al avs acc ∧ dCompL src gd tt te (wipeG Γ vs) (ds.drop i) acc μ2 (fun acc μ2 => dFin fz acc μ2 Qd),
    ⟨ds.length, by simp, Nat.zero_le _, n1.more p (.lst []), μ1, [], [], rfl, Step.more hp, r1.more hp, ⟨r1.hb hp, r1.nal hp, r1.nph hp⟩, upd_same, .nil, q⟩, ?_⟩
  rintro i m H' ⟨rfl, hi, n2, μ2, acc, avs, rfl, s2, r2, hid, hv, rp, q2⟩
  have gd2 : Gd src μ2 := by
    cases hd : ds.drop i with
    | nil => rw [hd] at q2; exact q2.1
    | cons d r => rw [hd] at q2; exact q2.1
  by_cases hlt : i < ds.length
  · refine .inr ⟨w.goes n2 μ2 i s2.sp r2 gd2 hlt, _, fun H3 p3 => ⟨ds.length - (i + 1), by omega, p3⟩, fun x H3 y => ?_⟩
    rw [List.drop_eq_getElem_cons hlt] at q2
    obtain ⟨n3, rfl, s3, r3, p3⟩ := w.yields n2 μ2 i x H3 ds[i] s2.sp r2 gd2 (by rw [List.getElem?_eq_getElem hlt]) y
    refine hg n3 μ2 x ds[i] (wipeG Γ vs) (L2.wipe σ vs) _ _ r3 ((gw.step s2).step s3) p3 q2.2 fun Γ4 σ4 g4 hl4 ha4 q4 => ⟨?_, ?_⟩
    · refine (wipe_eq hl4 ha4).trans ?_
      exact wipe_eq (L2.wipe_length σ vs) (fun k hk => by rw [wipe_get, if_neg hk])
    · refine liftT_go r3 g4 q4 (fun n5 b μ5 s5 r5 q5 => ?_) (fun _ _ _ _ _ _ _ _ z => z)
      obtain ⟨hid3, hv3⟩ := hid.step hv s3
      obtain ⟨hid5, hv5⟩ := hid3.step hv3 s5
      cases b with
      | false =>
        exact iteF ⟨rfl, hlt, n5, μ5, acc, avs, rfl, (s2.trans s3).trans s5, r5, hid5, hv5, (s3.trans s5).reps rp, q5⟩
      | true =>
        refine iteT (lift_go r5 (g4.step s5) q5 (fun n6 y dy μ6 s6 r6 p6 q6 => ?_) (fun _ _ _ _ _ _ _ _ z => z))
        obtain ⟨hid6, hv6⟩ := hid5.step hv5 s6
        have rp6 := ((s3.trans s5).trans s6).reps rp
        refine ⟨avs, hv6, by rw [rp6.length]; exact q6.1, rfl, hlt, n6.more p (.lst (avs ++ [y])), μ6, acc ++ [dy], avs ++ [y], rfl, Step.other (((s2.trans s3).trans s5).trans s6) hp, r6.other hid6, ⟨hid6.b, hid6.a, hid6.ph⟩, upd_same, rp6.append (.cons p6 .nil), q6.2⟩
  · have e : i = ds.length := by omega
    subst e
    rw [List.drop_length] at q2
    refine .inl ⟨w.stops n2 μ2 s2.sp r2 gd2, ?_⟩
    have q3 := q2.2
    unfold dFin at q3
    cases fz with
    | true => exact hq ⟨upd n2.Hb p (.lst avs), n2.H, n2.al, n2.ph⟩ _ (.lst acc) μ2 (s1.trans (Step.adopt s2 hp hid)) (r2.adopt hid hv) (.lst upd_same (rp.mono (same_upd hid.b) (List.prefix_refl _))) q3
    | false =>
      refine hq ⟨n2.Hb, n2.H, n2.al ++ [p], n2.ph⟩ _ (.ref μ2.length) (μ2 ++ [Cell.lst acc]) (s1.trans (Step.adoptC s2 hp)) (r2.adoptC hid hv (c := .lst acc) ⟨hid.b, avs, hv, rp.mono (Same.refl _) (List.prefix_append _ _)⟩ (fun k z => by cases z)) (.ref ?_) q3
      show (n2.al ++ [p])[μ2.length]? = _
      rw [← r2.len]; simp
section
variable {X : Cx} {W : WX} {elt tg iter : Expr} {ifs : List Expr} {scope : Scope} {own : List (Str × Nat)} {pos : Pos} {fz : Bool} {fi : DTI} {g : TG} {gd : D → Gam → Mu → (Gam → Prop) → Prop} {tt : DTT} {te : DTE}
theorem dts_nil {X : Cx} : PTs X [] (liftT X.K W0 dYes) := ⟨fun pins s σ H Q I ⟨n, Γ, μ, Qd, Ed, hH, sr, gr, h, hq, hx⟩ => by
  subst hH
  exact (pts_nil (X := X)).run pins s σ n.H Q I (hq n true μ (Step.refl n) sr h)⟩
theorem dts_one {X : Cx} {c : Expr} (h : DT X W0 c tt) : PTs X [c] (liftT X.K W0 tt) := pts_one h
theorem de_lc (hc : X.calm = true) (hN : X.N.Nodup) (hi : DI X W tg iter fi) (ok : BlkOk X.N X.env.scope scope own) (hct : CT X.K (own.map (·.2)) g gd)
    (hg : ∀ (s : Shared) (H : Hp) (C : Addr) (cl : List (Str × Addr)) (fp : List Addr), PG (X.blk s H scope (compEnvC scope cl C X.env) fp) tg g)
    (ht : ∀ (s : Shared) (H : Hp) (C : Addr) (cl : List (Str × Addr)) (fp : List Addr), PTs (X.blk s H scope (compEnvC scope cl C X.env) fp) ifs (liftT X.K W0 tt))
    (he : ∀ (s : Shared) (H : Hp) (C : Addr) (cl : List (Str × Addr)) (fp : List Addr), PE (X.blk s H scope (compEnvC scope cl C X.env) fp) elt (lift X.K W0 te)) (hs : ∀ x, foldedSetIterable iter X.env x = pure x := by intro _; rfl) :
    DE X W (.ListComp elt [⟨tg, iter, ifs, 0⟩] scope pos) (dComp fz (own.map (·.2)) fi gd tt te) := PE.imp (pe_lc hc hN hi ok hg ht he hs) fun σ H Q h => comp_go hct σ H Q h
theorem ds_setLc {i : Nat} {y : Str} {py spos : Pos} (hc : X.calm = true) (hN : X.N.Nodup) (hy : X.N[i]? = some y) (hyl : X.env.scope.names.lookup y = some .local)
    (hsw : swapsWith (.ListComp elt [⟨tg, iter, ifs, 0⟩] scope pos) (some (.Name y py)) spos.line X.env = pure true) (hi : DI X W tg iter fi) (ok : BlkOk X.N X.env.scope scope own) (hct : CT X.K (own.map (·.2)) g gd)
    (hg : ∀ (s : Shared) (H : Hp) (C : Addr) (cl : List (Str × Addr)) (fp : List Addr), PG (X.blk s H scope (compEnvC scope cl C X.env) fp) tg g)
    (ht : ∀ (s : Shared) (H : Hp) (C : Addr) (cl : List (Str × Addr)) (fp : List Addr), PTs (X.blk s H scope (compEnvC scope cl C X.env) fp) ifs (liftT X.K W0 tt))
    (he : ∀ (s : Shared) (H : Hp) (C : Addr) (cl : List (Str × Addr)) (fp : List Addr), PE (X.blk s H scope (compEnvC scope cl C X.env) fp) elt (lift X.K W0 te)) (hs : ∀ x, foldedSetIterable iter X.env x = pure x := by intro _; rfl) :
    DS X W (.Assign [.Name y py] (.ListComp elt [⟨tg, iter, ifs, 0⟩] scope pos) spos) (dAsg (dComp fz (own.map (·.2)) fi gd tt te) (dName i)) := PS.imp (ps_setLc hc hN hy hyl hsw hi ok hg ht he hs) fun Dn σ H ⟨A, n, Γ, μ, Dd, hH, sa, sr, gr, h, l⟩ => by
  subst hH
  exact comp_go (fz := fz) hct σ n.H _ (lift_go sr gr h (fun n' v d μ' s' r' p q => l.nx n' (Γ.set i (some d)) (σ.set i (some v)) μ' (sa.trans s') r' ((gr.step s').set p i) q) (l.x sa gr))
end
end DV
namespace DV
open PySem PySem.Spec PyProof.Rows L2
/-! ### operators: the union of the layer's rules, read on data -/
section
variable {X : Cx} {f : Value → Value → Sem Value} {r r' : R2}
theorem opr_or (h : OpR X f r) (h' : OpR X f r') : OpR X f (fun x y H Q => r x y H Q ∨ r' x y H Q) := by
  intro pins s σ H x y v u Q I rx ry q
  rcases q with q | q
  · exact h pins s σ H x y v u Q I rx ry q
  · exact h' pins s σ H x y v u Q I rx ry q
theorem callr_or {g : Value} {r r' : List V → Hp → VK → Prop} (h : CallR X g r) (h' : CallR X g r') : CallR X g (fun x H Q => r x H Q ∨ r' x H Q) := by
  intro pins s σ H x u Q I rx q
  rcases q with q | q
  · exact h pins s σ H x u Q I rx q
  · exact h' pins s σ H x u Q I rx q
end
/-- flat data -/
def D.flat : D → Bool
  | .non => true | .bl _ => true | .int _ => true | .str _ => true | _ => false
/-- == of flat data -/
def D.eqF : D → D → Bool
  | .non, .non => true
  | .bl a, .bl b => a == b
  | .bl a, .int b => (if a then 1 else 0) == b
  | .int a, .bl b => a == (if b then 1 else 0)
  | .int a, .int b => a == b
  | .str a, .str b => a == b
  | _, _ => false
/-- deep data without dicts: to the library's own, k levels -/
def D.okn : Nat → D → Bool
  | _, .non => true
  | _, .bl _ => true
  | _, .int _ => true
  | _, .str x => PyData.strOk x
  | k + 1, .lst xs => xs.all (D.okn k)
  | k + 1, .tup xs => xs.all (D.okn k)
  | _, _ => false
def D.py : Nat → D → PyData
  | _, .bl b => .bool b
  | _, .int i => .int i
  | _, .str x => .str x
  | k + 1, .lst xs => .list (xs.map (D.py k))
  | k + 1, .tup xs => .tuple (xs.map (D.py k))
  | _, _ => .none
theorem canLayAll0_iff (l : List PyData) : PyData.canLayAll0 l = l.all PyData.canLay0 := by
  induction l with
  | nil => rfl
  | cons a l ih => rw [PyData.canLayAll0, ih]; rfl
theorem depthAll_le (l : List PyData) (k : Nat) (h : ∀ x ∈ l, PyData.depth x ≤ k) : PyData.depthAll l ≤ k := by
  induction l with
  | nil => simp [PyData.depthAll]
  | cons a l ih =>
    rw [PyData.depthAll]
    exact Nat.max_le.mpr ⟨h a (by simp), ih fun x hx => h x (by simp [hx])⟩
theorem okn_lay : ∀ (k : Nat) (d : D), D.okn k d = true → PyData.canLay0 (D.py k d) = true ∧ PyData.depth (D.py k d) ≤ k := by
  intro k
  induction k with
  | zero => intro d h; cases d <;> simp_all [D.okn, D.py, PyData.canLay0, PyData.depth]
  | succ k ih =>
    intro d h
    cases d with
    | lst xs =>
      simp only [D.okn, List.all_eq_true] at h
      simp only [D.py, PyData.canLay0, PyData.depth, canLayAll0_iff]
      refine ⟨?_, Nat.succ_le_succ (depthAll_le _ _ fun x hx => ?_)⟩
      · rw [List.all_eq_true]; intro x hx
        obtain ⟨y, hy, rfl⟩ := List.mem_map.mp hx
        exact (ih y (h y hy)).1
      · obtain ⟨y, hy, rfl⟩ := List.mem_map.mp hx
        exact (ih y (h y hy)).2
    | tup xs =>
      simp only [D.okn, List.all_eq_true] at h
      simp only [D.py, PyData.canLay0, PyData.depth, canLayAll0_iff]
      refine ⟨?_, Nat.succ_le_succ (depthAll_le _ _ fun x hx => ?_)⟩
      · rw [List.all_eq_true]; intro x hx
        obtain ⟨y, hy, rfl⟩ := List.mem_map.mp hx
        exact (ih y (h y hy)).1
      · obtain ⟨y, hy, rfl⟩ := List.mem_map.mp hx
        exact (ih y (h y hy)).2
    | _ => simp_all [D.okn, D.py, PyData.canLay0, PyData.depth]
section
variable {K : PySem.W.Frag} {Hb H : Hp} {al : List Addr}
theorem dp_of (s : Same Hb H) : ∀ (k : Nat) {v : V} {d : D}, Rep K Hb al v d → D.okn k d = true → Dp K H v (D.py k d) := by
  intro k
  induction k with
  | zero => intro v d r h; cases r <;> simp_all [D.okn, D.py] <;> constructor
  | succ k ih =>
    have all : ∀ {vs : List V} {ds : List D}, Reps K Hb al vs ds → ds.all (D.okn k) = true → DpAll K H vs (ds.map (D.py k)) := by
      intro vs
      induction vs with
      | nil => intro ds r _; cases r; exact .nil
      | cons v vs ihv =>
        intro ds r h
        cases r with
        | cons r1 r2 =>
          simp only [List.all_cons, Bool.and_eq_true] at h
          exact .cons (ih r1 h.1) (ihv r2 h.2)
    intro v d r h
    cases r with
    | lst h1 h2 =>
      simp only [D.okn] at h
      exact .lst (SqL.of (s _ _ h1)) (all h2 h)
    | tup h1 h2 =>
      simp only [D.okn] at h
      exact .tup (SqT.of (s _ _ h1)) (all h2 h)
    | non => simp only [D.py]; exact .non
    | bl b => simp only [D.py]; exact .bl b
    | int i => simp only [D.py]; exact .int i
    | str x => simp only [D.py]; exact .str x
    | _ => simp [D.okn] at h
end
/-- a cell that is compared: its list stands in H alone -/
theorem dp_see {K : PySem.W.Frag} {n : Now} {μ : Mu} {v : V} {d : D} (k : Nat) (s : SR0 K n μ) (r : Rep K n.Hb n.al v d) (h : D.okn (k + 1) (lk μ d) = true) : Dp K n.H v (D.py (k + 1) (lk μ d)) := by
  by_cases hr : ∃ l, d = .ref l
  · obtain ⟨l, rfl⟩ := hr
    cases e : lk μ (.ref l) with
    | lst ds =>
      rw [e] at h
      obtain ⟨a, vs, rfl, h1, h2⟩ := see_lst s r e
      have q : Dp K n.H (.ref a) (D.py (k + 1) (.lst ds)) := by
        simp only [D.okn] at h
        refine .lst (SqL.of h1) ?_
        clear e h1 r
        induction vs generalizing ds with
        | nil => cases h2; exact .nil
        | cons v vs ihv =>
          cases h2 with
          | cons r1 r2 =>
            simp only [List.all_cons, Bool.and_eq_true] at h
            exact .cons (dp_of s.same k r1 h.1) (ihv _ h.2 r2)
      exact q
    | ref m => rw [e] at h; simp [D.okn] at h
    | dct m => rw [e] at h; simp [D.okn] at h
    | ins C m => rw [e] at h; simp [D.okn] at h
    | _ =>
      have z := lk_ref e (by simp)
      rcases z with ⟨_, _, q⟩ | ⟨_, _, q⟩ | ⟨_, _, _, q⟩ <;> cases q
  · have e : lk μ d = d := by
      cases d with
      | ref l => exact absurd ⟨l, rfl⟩ hr
      | _ => rfl
    rw [e] at h ⊢
    exact dp_of s.same _ r h
/-- ==, 12 levels deep -/
def deq (μ : Mu) (x y : D) : Bool := PyData.eqv (D.py 12 (lk μ x)) (D.py 12 (lk μ y))
def deqOk (μ : Mu) (x y : D) : Prop := D.okn 12 (lk μ x) = true ∧ D.okn 12 (lk μ y) = true
def gEq : G2 := fun x y μ Q => deqOk μ x y ∧ Q (.bl (deq μ x y)) μ
def gNe : G2 := fun x y μ Q => deqOk μ x y ∧ Q (.bl (!deq μ x y)) μ
theorem shaped_py {d : D} (h : D.okn 12 d = true) : SeqAt.shaped (D.py 12 d) = true := by
  obtain ⟨h1, h2⟩ := okn_lay 12 d h
  unfold SeqAt.shaped
  rw [h1, Bool.true_and, decide_eq_true]
  omega
theorem op_gEq {K : PySem.W.Frag} : Op2 K (rEqD K) gEq := fun n μ x y dx dy Qd Q s rx ry h l =>
  ⟨_, _, dp_see 11 s rx h.1.1, dp_see 11 s ry h.1.2, shaped_py h.1.1, shaped_py h.1.2, l.now s (.bl _) h.2⟩
theorem op_gNe {K : PySem.W.Frag} : Op2 K (rNeD K) gNe := fun n μ x y dx dy Qd Q s rx ry h l =>
  ⟨_, _, dp_see 11 s rx h.1.1, dp_see 11 s ry h.1.2, shaped_py h.1.1, shaped_py h.1.2, l.now s (.bl _) h.2⟩
section
variable {X : Cx} {W : WX} {a b c : Expr} {pos : Pos} {fa fb fc : DTE}
theorem dt_cmp {op : CmpOp} {r : R2} {g : G2} (ho : OpR X (compareOp op) r) (hg : Op2 X.K r g) (ha : DE X W a fa) (hb : DE X W b fb) (hm : behindInMarks op b = false := by rfl) : DT X W (.Compare a [op] [b] pos) (dTest (dBin g fa fb)) := PT.imp (pt_cmpR ho ha hb hm) fun σ H Q ⟨n, Γ, μ, Qd, Ed, hH, sr, gr, h, hq, hx⟩ => by
  subst hH
  unfold tTest
  refine two hg σ n.H _ (lift_go sr gr h (fun n1 x dx μ1 s1 r1 p1 q1 => ?_) hx)
  cases p1 with
  | bl b => exact ⟨b, rfl, hq n1 b μ1 s1 r1 q1⟩
  | _ => exact q1.elim
theorem dt_eq (hu : X.A.units + 64 < cLine) (ha : DE X W a fa) (hb : DE X W b fb) : DT X W (.Compare a [.Eq] [b] pos) (dTest (dBin gEq fa fb)) := dt_cmp (op_eqD hu) op_gEq ha hb (nomark _)
theorem dt_ne (hu : X.A.units + 64 < cLine) (ha : DE X W a fa) (hb : DE X W b fb) : DT X W (.Compare a [.NotEq] [b] pos) (dTest (dBin gNe fa fb)) := dt_cmp (op_neD hu) op_gNe ha hb (nomark _)
theorem de_eq (hu : X.A.units + 64 < cLine) (ha : DE X W a fa) (hb : DE X W b fb) : DE X W (.Compare a [.Eq] [b] pos) (dBin gEq fa fb) := de_cmp (op_eqD hu) op_gEq ha hb (nomark _)
/-! ### ints -/
def gI (g : Int → Int → D) : G2 := fun x y μ Q => match x, y with
  | .int i, .int j => Q (g i j) μ
  | _, _ => False
theorem op_gI {K : PySem.W.Frag} {gv : Int → Int → V} {gd : Int → Int → D} (h : ∀ K Hb al i j, Rep K Hb al (gv i j) (gd i j)) : Op2 K (rI0 gv) (gI gd) := fun n μ x y dx dy Qd Q s rx ry q l => by
  cases rx with
  | int i =>
    cases ry with
    | int j => exact ⟨i, j, rfl, rfl, l.now s (h _ _ _ i j) q⟩
    | _ => exact q.elim
  | _ => exact q.elim
theorem dt_ge (ha : DE X W a fa) (hb : DE X W b fb) : DT X W (.Compare a [.GtE] [b] pos) (dTest (dBin (gI fun i j => .bl (decide (j ≤ i))) fa fb)) := dt_cmp op_ge (op_gI fun _ _ _ _ _ => .bl _) ha hb (nomark _)
theorem de_sub (ha : DE X W a fa) (hb : DE X W b fb) : DE X W (.BinOp a .Sub b pos) (dBin (gI fun i j => .int (i - j)) fa fb) := de_op op_sub (op_gI fun _ _ _ _ _ => .int _) ha hb
/-- + : ints, texts, lists, tuples -/
def gAdd : G2 := fun x y μ Q => match lk μ x, lk μ y with
  | .int i, .int j => Q (.int (i + j)) μ
  | .str i, .str j => i.length + j.length ≤ sizeLine ∧ Q (.str (i ++ j)) μ
  | .lst i, .lst j => i.length + j.length ≤ sizeLine ∧ Q (.lst (i ++ j)) μ
  | .tup i, .tup j => i.length + j.length ≤ sizeLine ∧ Q (.tup (i ++ j)) μ
  | _, _ => False
theorem lk_int {μ : Mu} {d : D} {i : Int} (h : lk μ d = .int i) : d = .int i := by
  cases d with
  | ref l => rcases lk_ref h (by simp) with ⟨_, _, q⟩ | ⟨_, _, q⟩ | ⟨_, _, _, q⟩ <;> cases q
  | _ => exact h
theorem lk_str {μ : Mu} {d : D} {i : Str} (h : lk μ d = .str i) : d = .str i := by
  cases d with
  | ref l => rcases lk_ref h (by simp) with ⟨_, _, q⟩ | ⟨_, _, q⟩ | ⟨_, _, _, q⟩ <;> cases q
  | _ => exact h
theorem lk_scr {μ : Mu} {d : D} {i : List Int} (h : lk μ d = .scr i) : d = .scr i := by
  cases d with
  | ref l => rcases lk_ref h (by simp) with ⟨_, _, q⟩ | ⟨_, _, q⟩ | ⟨_, _, _, q⟩ <;> cases q
  | _ => exact h
theorem op_gAdd {K : PySem.W.Frag} : Op2 K (fun x y H Q => rI0 (fun i j => .int (i + j)) x y H Q ∨ (∃ i j, x = .str i ∧ y = .str j ∧ i.length + j.length ≤ sizeLine ∧ Q (.str (i ++ j)) H) ∨ rCat x y H Q ∨ rCatA K x y H Q) gAdd := fun n μ x y dx dy Qd Q s rx ry q l => by
  unfold gAdd at q
  split at q
  · rename_i i j e1 e2
    rw [lk_int e1] at rx; rw [lk_int e2] at ry
    cases rx; cases ry
    exact .inl ⟨i, j, rfl, rfl, l.now s (.int _) q⟩
  · rename_i i j e1 e2
    rw [lk_str e1] at rx; rw [lk_str e2] at ry
    cases rx; cases ry
    exact .inr (.inl ⟨i, j, rfl, rfl, q.1, l.now s (.str _) q.2⟩)
  · rename_i i j e1 e2
    obtain ⟨a, vs, rfl, h1, r1⟩ := see_lst s rx e1
    obtain ⟨b, us, rfl, h2, r2⟩ := see_lst s ry e2
    exact .inr (.inr (.inl ⟨a, b, vs, us, rfl, rfl, h1, h2, by rw [r1.length, r2.length]; exact q.1, fun p hp => new_lst l s hp (r1.append r2) q.2⟩))
  · rename_i i j e1 e2
    have o1 : dx = .tup i := by
      cases dx with
      | ref l => rcases lk_ref e1 (by simp) with ⟨_, _, q⟩ | ⟨_, _, q⟩ | ⟨_, _, _, q⟩ <;> cases q
      | _ => exact e1
    have o2 : dy = .tup j := by
      cases dy with
      | ref l => rcases lk_ref e2 (by simp) with ⟨_, _, q⟩ | ⟨_, _, q⟩ | ⟨_, _, _, q⟩ <;> cases q
      | _ => exact e2
    obtain ⟨a, vs, rfl, h1, g1, r1⟩ := see_tup s rx e1
    obtain ⟨b, us, rfl, h2, g2, r2⟩ := see_tup s ry e2
    refine .inr (.inr (.inr ⟨a, b, vs, us, rfl, rfl, SqT.of h1, SqT.of h2, by rw [r1.length, r2.length]; exact q.1, fun z => ?_, fun _ z => ?_, fun _ _ p hp => new_tup l s hp (r1.append r2) q.2⟩))
    · subst z
      cases r1
      exact l.now s (.tup g2 r2) q.2
    · subst z
      cases r2
      exact l.now s (.tup g1 r1) (by simpa using q.2)
  · exact q.elim
theorem de_add (ha : DE X W a fa) (hb : DE X W b fb) : DE X W (.BinOp a .Add b pos) (dBin gAdd fa fb) :=
  de_op (opr_or op_add (opr_or op_add_str (opr_or op_cat op_catA))) op_gAdd ha hb
/-- * : ints (one factor small), a list by a number -/
def gMul : G2 := fun x y μ Q => match lk μ x, lk μ y with
  | .int i, .int j => ((-(2 ^ 64) < i ∧ i < 2 ^ 64) ∨ (-(2 ^ 64) < j ∧ j < 2 ^ 64)) ∧ Q (.int (i * j)) μ
  | .lst i, .int k => (-(2 ^ 63) ≤ k ∧ k < 2 ^ 63 ∧ i.length * k.toNat ≤ sizeLine) ∧ Q (.lst (List.replicate k.toNat i).flatten) μ
  | _, _ => False
theorem reps_rep {K : PySem.W.Frag} {Hb : Hp} {al : List Addr} {vs : List V} {ds : List D} (r : Reps K Hb al vs ds) (k : Nat) : Reps K Hb al (List.replicate k vs).flatten (List.replicate k ds).flatten := by
  induction k with
  | zero => exact .nil
  | succ k ih =>
    simp only [List.replicate_succ, List.flatten_cons]
    exact r.append ih
theorem op_gMul {K : PySem.W.Frag} : Op2 K (fun x y H Q => rI CMul (fun i j => .int (i * j)) x y H Q ∨ rRep x y H Q) gMul := fun n μ x y dx dy Qd Q s rx ry q l => by
  unfold gMul at q
  split at q
  · rename_i i j e1 e2
    rw [lk_int e1] at rx; rw [lk_int e2] at ry
    cases rx; cases ry
    exact .inl ⟨i, j, rfl, rfl, q.1, l.now s (.int _) q.2⟩
  · rename_i i k e1 e2
    obtain ⟨a, vs, rfl, h1, r1⟩ := see_lst s rx e1
    rw [lk_int e2] at ry
    cases ry
    exact .inr ⟨a, k, vs, rfl, rfl, h1, q.1.1, q.1.2.1, by rw [r1.length]; exact q.1.2.2, fun p hp => new_lst l s hp (reps_rep r1 _) q.2⟩
  · exact q.elim
theorem de_mul (ha : DE X W a fa) (hb : DE X W b fb) : DE X W (.BinOp a .Mult b pos) (dBin gMul fa fb) := de_op (opr_or op_mul op_rep) op_gMul ha hb
def gMod : G2 := fun x y μ Q => match x, y with
  | .int i, .int j => j ≠ 0 ∧ Q (.int (i.fmod j)) μ
  | _, _ => False
theorem op_gMod {K : PySem.W.Frag} : Op2 K (rI (fun _ j => j ≠ 0) fun i j => .int (i.fmod j)) gMod := fun n μ x y dx dy Qd Q s rx ry q l => by
  cases rx with
  | int i =>
    cases ry with
    | int j => exact ⟨i, j, rfl, rfl, q.1, l.now s (.int _) q.2⟩
    | _ => exact q.elim
  | _ => exact q.elim
theorem de_mod (ha : DE X W a fa) (hb : DE X W b fb) : DE X W (.BinOp a .Mod b pos) (dBin gMod fa fb) := de_op op_modN op_gMod ha hb
def gFdiv : G2 := fun x y μ Q => match x, y with
  | .int i, .int j => (0 < j ∧ j.natAbs.log2 < 9000) ∧ Q (.int (i / j)) μ
  | _, _ => False
theorem op_gFdiv {K : PySem.W.Frag} : Op2 K (rI CDivW fun i j => .int (i / j)) gFdiv := fun n μ x y dx dy Qd Q s rx ry q l => by
  cases rx with
  | int i =>
    cases ry with
    | int j => exact ⟨i, j, rfl, rfl, q.1, l.now s (.int _) q.2⟩
    | _ => exact q.elim
  | _ => exact q.elim
theorem de_fdiv (ha : DE X W a fa) (hb : DE X W b fb) : DE X W (.BinOp a .FloorDiv b pos) (dBin gFdiv fa fb) := de_op op_fdivW op_gFdiv ha hb
def gPow : G2 := fun x y μ Q => match x, y with
  | .int i, .int j => (0 ≤ j ∧ j ≤ 1000000 ∧ i.natAbs < 2 ^ 64) ∧ Q (.int (i ^ j.toNat)) μ
  | _, _ => False
theorem op_gPow {K : PySem.W.Frag} : Op2 K (rI CPow fun i j => .int (i ^ j.toNat)) gPow := fun n μ x y dx dy Qd Q s rx ry q l => by
  cases rx with
  | int i =>
    cases ry with
    | int j => exact ⟨i, j, rfl, rfl, q.1, l.now s (.int _) q.2⟩
    | _ => exact q.elim
  | _ => exact q.elim
theorem de_pow (ha : DE X W a fa) (hb : DE X W b fb) : DE X W (.BinOp a .Pow b pos) (dBin gPow fa fb) := de_op op_pow op_gPow ha hb
def gNeg : G1 := fun x μ Q => match x with
  | .int i => Q (.int (-i)) μ
  | _ => False
theorem de_neg (ha : DE X W a fa) : DE X W (.UnaryOp .USub a pos) (dUn gNeg fa) := de_un un_neg (fun n μ x dx Qd Q s rx q l => by
  cases rx with
  | int i => exact ⟨i, rfl, l.now s (.int _) q⟩
  | _ => exact q.elim) ha
/-! ### chains of two comparisons of ints -/
def dChain (g g' : Int → Int → Bool) (fa fb fc : DTE) : DTE := fun Γ μ Q E => fa Γ μ (fun x μ1 => fb Γ μ1 (fun y μ2 => match x, y with
  | .int i, .int j => cond (g i j) (fc Γ μ2 (fun z μ3 => match z with | .int k => Q (.bl (g' j k)) μ3 | _ => False) E) (Q (.bl false) μ2)
  | _, _ => False) E) E
/-! ### subscripts -/
def gIx : G2 := fun x y μ Q => match lk μ x, y with
  | .lst xs, .int i => (match atI xs i with | some d => Q d μ | none => False)
  | .tup xs, .int i => (match atI xs i with | some d => Q d μ | none => False)
  | .str z, .int i => z.length ≤ sizeLine ∧ (match atI z.cps.toList i with | some c => Q (.str ⟨#[c]⟩) μ | none => False)
  | _, _ => False
theorem reps_at {K : PySem.W.Frag} {Hb : Hp} {al : List Addr} {vs : List V} {ds : List D} (r : Reps K Hb al vs ds) {i : Int} {d : D} (h : atI ds i = some d) : ∃ v, atI vs i = some v ∧ Rep K Hb al v d := by
  unfold atI at h ⊢
  rw [r.length]
  cases e : ixN ds.length i with
  | none => rw [e] at h; cases h
  | some j => rw [e] at h; exact r.get h
theorem op_gIx {K : PySem.W.Frag} : Op2 K (rIx K) gIx := fun n μ x y dx dy Qd Q s rx ry q l => by
  unfold gIx at q
  split at q
  · rename_i xs i e1
    cases ry
    obtain ⟨a, vs, rfl, h1, r1⟩ := see_lst s rx e1
    split at q
    · rename_i d e
      obtain ⟨v, h2, r2⟩ := reps_at r1 e
      exact .inl ⟨a, vs, i, v, rfl, rfl, SqL.of h1, h2, l.now s r2 q⟩
    · exact q.elim
  · rename_i xs i e1
    cases ry
    obtain ⟨a, vs, rfl, h1, _, r1⟩ := see_tup s rx e1
    split at q
    · rename_i d e
      obtain ⟨v, h2, r2⟩ := reps_at r1 e
      exact .inr (.inl ⟨a, vs, i, v, rfl, rfl, SqT.of h1, h2, l.now s r2 q⟩)
    · exact q.elim
  · rename_i z i e1
    cases ry
    rw [lk_str e1] at rx
    cases rx
    obtain ⟨hz, q⟩ := q
    split at q
    · rename_i c e
      exact .inr (.inr ⟨z, i, c, rfl, rfl, hz, e, l.now s (.str _) q⟩)
    · exact q.elim
  · exact q.elim
theorem de_sub_ (ha : DE X W a fa) (hb : DE X W b fb) (hs : PlainIx b := by exact fun _ _ => rfl) : DE X W (.Subscript a b pos) (dBin gIx fa fb) := de_ix ix_seq op_gIx ha hb hs
end
end DV
namespace DV
open PySem PySem.Spec PyProof.Rows L2
section
variable {X : Cx} {W : WX} {a b c e o : Expr} {es : List Expr} {p pos apos : Pos} {fa fb fc : DTE} {fr : DTA}
/-! ### built-ins of one argument -/
def gLen : GN := fun ds μ Q => match ds with
  | [d] => (match lk μ d with
    | .lst xs => Q (.int xs.length) μ
    | .tup xs => Q (.int xs.length) μ
    | .str z => z.length ≤ sizeLine ∧ Q (.int z.length) μ
    | .dct kvs => Q (.int kvs.length) μ
    | _ => False)
  | _ => False
theorem len_of_maps {α β γ δ : Type} {l : List (α × β)} {m : List (α × γ)} (h : l.map (·.1) = m.map (·.1)) : l.length = m.length := by
  have := congrArg List.length h
  simpa using this
theorem op_gLen {K : PySem.W.Frag} : OpN K (fun xs H Q => (∃ x n, xs = [x] ∧ LenV K x H n ∧ Q (.int n) H) ∨ ∃ a kvs, xs = [V.ref a] ∧ Rd H a (.dK kvs) ∧ Q (.int kvs.length) H) gLen := fun n μ xs ds Qd Q s r q l => by
  unfold gLen at q
  split at q
  · cases r with
    | cons r1 r2 =>
      cases r2
      split at q
      · rename_i ys e
        obtain ⟨a, vs, rfl, h1, h2⟩ := see_lst s r1 e
        exact .inl ⟨_, _, rfl, .inl ⟨vs, SqL.of h1, rfl⟩, l.now s (.int _) (by rw [h2.length]; exact q)⟩
      · rename_i ys e
        obtain ⟨a, vs, rfl, h1, _, h2⟩ := see_tup s r1 e
        exact .inl ⟨_, _, rfl, .inr ⟨vs, SqT.of h1, rfl⟩, l.now s (.int _) (by rw [h2.length]; exact q)⟩
      · rename_i z e
        rw [lk_str e] at r1
        cases r1
        exact .inl ⟨_, _, rfl, ⟨q.1, rfl⟩, l.now s (.int _) q.2⟩
      · rename_i kvs e
        obtain ⟨a, us, rfl, h1, h2, h3⟩ := see_dct s r1 e
        have hl : kvs.length = us.length := by simpa using congrArg List.length h2
        exact .inr ⟨a, us, rfl, h1, l.now s (.int _) (by rw [← hl]; exact q)⟩
      · exact q.elim
  · exact q.elim
theorem call_lenDR : CallR X (.builtin "len") (fun xs H Q => ∃ a kvs, xs = [V.ref a] ∧ Rd H a (.dK kvs) ∧ Q (.int kvs.length) H) := by
  intro pins s σ H xs us Q I r h
  obtain ⟨a, kvs, rfl, ha, q⟩ := h
  obtain ⟨u, rfl, ru⟩ := vals1 r
  cases ru
  exact d_len I ha fun t s' I' => ⟨.int kvs.length, H, I', ⟨t, rfl⟩, q⟩
theorem de_len (hg : Gl X "len") (hm : X.mg "len" = none) (ha : DE X W a fa) (hs : starEach [a] X.env = (false, eval a X.env) :: starEach [] X.env := by rfl) : DE X W (.Call (.Name "len" p) [a] [] pos) (dCall gLen (dCons fa dNil)) :=
  de_callB (callr_or call_len call_lenDR) op_gLen hg hm PySem.boot_len (da_cons ha da_nil hs) (he := hs)
def gAbs : GN := fun ds μ Q => match ds with
  | [.int i] => Q (.int (if i < 0 then -i else i)) μ
  | _ => False
theorem de_abs (hg : Gl X "abs") (hm : X.mg "abs" = none) (ha : DE X W a fa) (hs : starEach [a] X.env = (false, eval a X.env) :: starEach [] X.env := by rfl) : DE X W (.Call (.Name "abs" p) [a] [] pos) (dCall gAbs (dCons fa dNil)) :=
  de_callB call_abs (fun n μ xs ds Qd Q s r q l => by
    unfold gAbs at q
    split at q
    · cases r with
      | cons r1 r2 => cases r2; cases r1; exact ⟨_, rfl, l.now s (.int _) q⟩
    · exact q.elim) hg hm (by decide +kernel) (da_cons ha da_nil hs) (he := hs)
def gInt : GN := fun ds μ Q => match ds with
  | [.int i] => Q (.int i) μ
  | [.bl b] => Q (.int (if b then 1 else 0)) μ
  | _ => False
theorem de_intC (hg : Gl X "int") (hm : X.mg "int" = none) (ha : DE X W a fa) (hs : starEach [a] X.env = (false, eval a X.env) :: starEach [] X.env := by rfl) : DE X W (.Call (.Name "int" p) [a] [] pos) (dCall gInt (dCons fa dNil)) :=
  de_callTy call_int1 (fun n μ xs ds Qd Q s r q l => by
    unfold gInt at q
    split at q
    · cases r with
      | cons r1 r2 => cases r2; cases r1; exact .inl ⟨_, rfl, l.now s (.int _) q⟩
    · cases r with
      | cons r1 r2 => cases r2; cases r1; exact .inr ⟨_, rfl, l.now s (.int _) q⟩
    · exact q.elim) hg hm (by decide +kernel) (da_cons ha da_nil hs) (he := hs)
/-- list(x): as data, or as a cell -/
def gList (fz : Bool) : GN := fun ds μ Q => match ds with
  | [d] => (match lk μ d with
    | .lst xs => dFin fz xs μ Q
    | .tup xs => dFin fz xs μ Q
    | .scr ns => dFin fz (ns.map D.int) μ Q
    | _ => False)
  | _ => False
theorem fin_lst {K : PySem.W.Frag} {n : Now} {Qd : D → Mu → Prop} {Q : VK} {fz : Bool} (l : LV K n Qd Q) {μ : Mu} (s : SR0 K n μ) {p : Addr} {vs : List V} {ds : List D} (hp : n.H p = none) (r : Reps K n.Hb n.al vs ds) (q : dFin fz ds μ Qd) : Q (.ref p) (upd n.H p (.lst vs)) := by
  cases fz with
  | true => exact new_lst l s hp r q
  | false => exact new_cell l s hp r q
theorem op_gList {K : PySem.W.Frag} {fz : Bool} : OpN K (fun xs H Q => ∃ p ys, xs = [.ref p] ∧ (SqL K H p ys ∨ SqT K H p ys) ∧ ∀ l, H l = none → Q (.ref l) (upd H l (.lst ys))) (gList fz) := fun n μ xs ds Qd Q s r q l => by
  unfold gList at q
  split at q
  · cases r with
    | cons r1 r2 =>
      cases r2
      split at q
      · rename_i ys e
        obtain ⟨a, vs, rfl, h1, h2⟩ := see_lst s r1 e
        exact ⟨a, vs, rfl, .inl (SqL.of h1), fun p hp => fin_lst l s hp h2 q⟩
      · rename_i ys e
        obtain ⟨a, vs, rfl, h1, _, h2⟩ := see_tup s r1 e
        exact ⟨a, vs, rfl, .inr (SqT.of h1), fun p hp => fin_lst l s hp h2 q⟩
      · rename_i ns e
        rw [lk_scr e] at r1
        cases r1 with
        | scr h1 => exact ⟨_, _, rfl, .inl (s.same.seq h1), fun p hp => fin_lst l s hp (reps_ints ns) q⟩
      · exact q.elim
  · exact q.elim
theorem de_list (fz : Bool) (hg : Gl X "list") (hm : X.mg "list" = none) (ha : DE X W a fa) (hs : starEach [a] X.env = (false, eval a X.env) :: starEach [] X.env := by rfl) : DE X W (.Call (.Name "list" p) [a] [] pos) (dCall (gList fz) (dCons fa dNil)) :=
  de_callTy call_list_of op_gList hg hm (by decide +kernel) (da_cons ha da_nil hs) (he := hs)
def gTuple : GN := fun ds μ Q => match ds with
  | [d] => (match lk μ d with
    | .lst xs => Q (.tup xs) μ
    | .tup xs => Q (.tup xs) μ
    | _ => False)
  | _ => False
/-- a list made by +, as a cell -/
def gAddM : G2 := fun x y μ Q => match lk μ x, lk μ y with
  | .lst i, .lst j => i.length + j.length ≤ sizeLine ∧ Q (.ref μ.length) (μ ++ [.lst (i ++ j)])
  | _, _ => False
theorem de_addM (ha : DE X W a fa) (hb : DE X W b fb) : DE X W (.BinOp a .Add b pos) (dBin gAddM fa fb) := de_op op_cat (fun n μ x y dx dy Qd Q s rx ry q l => by
  unfold gAddM at q
  split at q
  · rename_i i j e1 e2
    obtain ⟨a, vs, rfl, h1, r1⟩ := see_lst s rx e1
    obtain ⟨b, us, rfl, h2, r2⟩ := see_lst s ry e2
    exact ⟨a, b, vs, us, rfl, rfl, h1, h2, by rw [r1.length, r2.length]; exact q.1, fun p hp => new_cell l s hp (r1.append r2) q.2⟩
  · exact q.elim) ha hb
/-! ### isinstance against a built-in class -/
inductive Ty where
  | non | bool | int | str | list | tup | dict
  deriving DecidableEq
def Ty.nm : Ty → String
  | .non => "NoneType" | .bool => "bool" | .int => "int" | .str => "str" | .list => "list" | .tup => "tuple" | .dict => "dict"
def Ty.sub (a b : Ty) : Bool := decide (a = b) || (decide (a = .bool) && decide (b = .int))
theorem kit_sub (a b : Ty) (hb : b ≠ .non) : kitB a.nm b.nm = some (a.sub b) := by
  cases b <;> first | exact absurd rfl hb | (cases a <;> decide +kernel)
def tyD : D → Option Ty
  | .non => some .non | .bl _ => some .bool | .int _ => some .int | .str _ => some .str | .lst _ => some .list | .tup _ => some .tup | .dct _ => some .dict | _ => none
theorem ty_of {K : PySem.W.Frag} {n : Now} {μ : Mu} {v : V} {d : D} {t : Ty} (s : SR0 K n μ) (r : Rep K n.Hb n.al v d) (h : tyD (lk μ d) = some t) : TyX K n.H v (.type t.nm) := by
  cases e : lk μ d with
  | lst ds => rw [e] at h; cases h; obtain ⟨a, vs, rfl, h1, _⟩ := see_lst s r e; exact .base (.lst h1)
  | tup ds => rw [e] at h; cases h; obtain ⟨a, vs, rfl, h1, _⟩ := see_tup s r e; exact .base (.tup h1)
  | dct ds => rw [e] at h; cases h; obtain ⟨a, vs, rfl, h1, _⟩ := see_dct s r e; exact h1.elim (fun h => .base (.dK h)) fun ⟨o, h⟩ => .fDict h
  | int i => rw [e] at h; cases h; rw [lk_int e] at r; cases r; exact .base (.int i)
  | str i => rw [e] at h; cases h; rw [lk_str e] at r; cases r; exact .base (.str i)
  | non =>
    rw [e] at h; cases h
    cases d with
    | ref l => rcases lk_ref e (by simp) with ⟨_, _, q⟩ | ⟨_, _, q⟩ | ⟨_, _, _, q⟩ <;> cases q
    | non => cases r; exact .base .non
    | _ => cases e
  | bl b =>
    rw [e] at h; cases h
    cases d with
    | ref l => rcases lk_ref e (by simp) with ⟨_, _, q⟩ | ⟨_, _, q⟩ | ⟨_, _, _, q⟩ <;> cases q
    | bl b => cases e; cases r; exact .base (.bl _)
    | _ => cases e
  | _ => rw [e] at h; cases h
def dIsi (t : Ty) (f : DTE) : DTE := fun Γ μ Q E => f Γ μ (fun d μ1 => match tyD (lk μ1 d) with
  | some a => Q (.bl (a.sub t)) μ1
  | none => False) E
theorem de_isi {T : Str} {p2 : Pos} (t : Ty) (ht : t ≠ .non) (hg : Gl X "isinstance") (hm : X.mg "isinstance" = none) (ha : DE X W a fa) (hgT : Gl X T) (hmT : X.mg T = none) (hvT : bootBuiltins T = some (.type t.nm)) (hn : T ≠ "__name__" := by decide) (hd : (T == ("__debug__" : Str)) = false := by decide)
    (hs : starEach [a, .Name T p2] X.env = (false, eval a X.env) :: starEach [.Name T p2] X.env := by rfl) (hs2 : starEach [.Name T p2] X.env = (false, eval (.Name T p2) X.env) :: starEach [] X.env := by rfl) (hpl : (backTo pos (starEach [.Name T p2] X.env)).any (·.1) = false := by rfl) :
    DE X W (.Call (.Name "isinstance" p) [a, .Name T p2] [] pos) (dIsi t fa) :=
  PE.imp (pe_callB call_isi hg hm (by decide +kernel) (pa_cons ha (pa_cons (pe_bltn (v := .ty t.nm) hgT hmT hvT rfl hn hd) pa_nil hs2) hs) (by decide) (by decide) hs hpl) fun σ H Q ⟨n, Γ, μ, Qd, Ed, hH, sr, gr, h, hq, hx⟩ => by
  subst hH
  refine lift_go sr gr h (fun n1 x dx μ1 s1 r1 p1 q1 => ?_) hx
  try dsimp only at q1
  split at q1
  · rename_i t' e
    exact ⟨_, _, _, _, _, rfl, .ty _, ty_of r1 p1 e, kit_ty (kit_sub t' t ht), hq n1 _ _ μ1 s1 r1 (.bl _) q1⟩
  · exact q1.elim
/-! ### is None -/
def D.isN : D → Bool
  | .non => true
  | _ => false
def gIs : G2 := fun x y μ Q => match y with
  | .non => Q (.bl x.isN) μ
  | _ => False
def gIsNot : G2 := fun x y μ Q => match y with
  | .non => Q (.bl (!x.isN)) μ
  | _ => False
/-! ### in: flat things in a list or tuple, a sign in a text, a key in a dict -/
def inF (x : D) (xs : List D) : Bool := xs.any fun y => D.eqF y x
/-- one sign -/
def sgn (x : Str) : Option Nat := match x.cps.toList with
  | [c] => some c
  | _ => none
def gIn (neg : Bool) : G2 := fun x y μ Q => match lk μ y with
  | .lst ys => (x.flat = true ∧ ys.all D.flat = true) ∧ Q (.bl (if neg then !inF x ys else inF x ys)) μ
  | .tup ys => (x.flat = true ∧ ys.all D.flat = true) ∧ Q (.bl (if neg then !inF x ys else inF x ys)) μ
  | .str z => (match x with
    | .str w => (match sgn w with | some c => Q (.bl (if neg then !decide (c ∈ z.cps.toList) else decide (c ∈ z.cps.toList))) μ | none => False)
    | _ => False)
  | _ => False
/-! ### methods of built-in types -/
def strD : List D → Option (List Str)
  | [] => some []
  | .str x :: xs => (strD xs).map (x :: ·)
  | _ => none
theorem strD_map (xs : List Str) : strD (xs.map D.str) = some xs := by
  induction xs with
  | nil => rfl
  | cons x xs ih => simp [strD, ih]
theorem strD_eq : ∀ {ds : List D} {xs : List Str}, strD ds = some xs → ds = xs.map D.str
  | [], xs, h => by simp [strD] at h; subst h; rfl
  | .str x :: ds, xs, h => by
    simp only [strD, Option.map_eq_some_iff] at h
    obtain ⟨ys, h1, rfl⟩ := h
    rw [strD_eq h1]; rfl
  | .non :: _, _, h => by simp [strD] at h
  | .bl _ :: _, _, h => by simp [strD] at h
  | .int _ :: _, _, h => by simp [strD] at h
  | .ref _ :: _, _, h => by simp [strD] at h
  | .cls _ :: _, _, h => by simp [strD] at h
  | .scr _ :: _, _, h => by simp [strD] at h
  | .lst _ :: _, _, h => by simp [strD] at h
  | .tup _ :: _, _, h => by simp [strD] at h
  | .dct _ :: _, _, h => by simp [strD] at h
  | .ins _ _ :: _, _, h => by simp [strD] at h
def dJoin (fo fe : DTE) : DTE := fun Γ μ Q E => fo Γ μ (fun x μ1 => (∃ a, x = .str a) ∧ fe Γ μ1 (fun y μ2 => match x with
  | .str a => (match lk μ2 y with
    | .lst ds => (match strD ds with | some ys => (ys.map (·.length)).sum + ys.length * a.length ≤ 16777216 ∧ Q (.str (Txt.join a ys)) μ2 | none => False)
    | .tup ds => (match strD ds with | some ys => (ys.map (·.length)).sum + ys.length * a.length ≤ 16777216 ∧ Q (.str (Txt.join a ys)) μ2 | none => False)
    | _ => False)
  | _ => False) E) E
theorem de_join (ho : DE X W o fa) (he : DE X W e fb) (hs : starEach [e] X.env = [(false, eval e X.env)] := by rfl) (hbase : attributeBase o "join" X.env (eval o X.env) = eval o X.env := by rfl) (hline : (apos.endLine == pos.line) = true := by rfl) :
    DE X W (.Call (.Attribute o "join" apos) [e] [] pos) (dJoin fa fb) := PE.imp (pe_join ho he hs hbase hline) fun σ H Q ⟨n, Γ, μ, Qd, Ed, hH, sr, gr, h, hq, hx⟩ => by
  subst hH
  refine lift_go sr gr h (fun n1 x dx μ1 s1 r1 p1 q1 => ?_) hx
  obtain ⟨⟨z, rfl⟩, q1⟩ := q1
  cases p1
  refine ⟨⟨z, rfl⟩, lift_go r1 (gr.step s1) q1 (fun n2 y dy μ2 s2 r2 p2 q2 => ?_) (hx.step s1)⟩
  dsimp only at q2
  split at q2
  · rename_i ds e
    split at q2
    · rename_i ys e2
      obtain ⟨a, vs, rfl, h1, h2⟩ := see_lst r2 p2 e
      rw [strD_eq e2] at h2
      have e3 := Reps.strs ys h2
      subst e3
      exact ⟨z, a, ys, rfl, rfl, .inl (SqL.of h1), q2.1, hq n2 _ _ μ2 (s1.trans s2) r2 (.str _) q2.2⟩
    · exact q2.elim
  · rename_i ds e
    split at q2
    · rename_i ys e2
      obtain ⟨a, vs, rfl, h1, _, h2⟩ := see_tup r2 p2 e
      rw [strD_eq e2] at h2
      have e3 := Reps.strs ys h2
      subst e3
      exact ⟨z, a, ys, rfl, rfl, .inr (SqT.of h1), q2.1, hq n2 _ _ μ2 (s1.trans s2) r2 (.str _) q2.2⟩
    · exact q2.elim
  · exact q2.elim
/-- a list's own method that writes: on a cell -/
def dCellM (g : List D → List D → Option (D × List D)) (fo : DTE) (fr : DTA) : DTE := fun Γ μ Q E => fo Γ μ (fun x μ1 => match x with
  | .ref l => (match μ1[l]? with
    | some (.lst _) => fr Γ μ1 (fun vs μ2 => match μ2[l]? with
      | some (.lst xs) => (match g xs vs with | some (d, ys) => Q d (μ2.set l (.lst ys)) | none => False)
      | _ => False) E
    | _ => False)
  | _ => False) E
def CellOp (K : PySem.W.Frag) (r : V → List V → Hp → VK → Prop) (g : List D → List D → Option (D × List D)) : Prop := ∀ Hb al H p (us vs : List V) (xs ds : List D) d ys (Q : VK), H p = some (.lst us) → Reps K Hb al us xs → Reps K Hb al vs ds → g xs ds = some (d, ys) →
  (∀ v ws, Rep K Hb al v d → Reps K Hb al ws ys → Q v (upd H p (.lst ws))) → r (.ref p) vs H Q
theorem cellm_go {K : PySem.W.Frag} {r : V → List V → Hp → VK → Prop} {g : List D → List D → Option (D × List D)} (hg : CellOp K r g) (σ : L2.St) (H : Hp) (Q : VK) (h : lift K W (dCellM g fa fr) σ H Q) : tBM K "list" r (lift K W fa) (liftA K W fr) σ H Q := by
  obtain ⟨n, Γ, μ, Qd, Ed, hH, sr, gr, h, hq, hx⟩ := h
  subst hH
  refine lift_go sr gr h (fun n1 x dx μ1 s1 r1 p1 q1 => ?_) hx
  cases p1 with
  | @ref l a hl =>
    dsimp only at q1
    split at q1
    · rename_i ys e
      obtain ⟨_, vs, h1, h2⟩ := r1.cell _ _ _ hl e
      refine ⟨.inl ⟨rfl, vs, SqL.of h1⟩, liftA_go r1 (gr.step s1) q1 (fun n2 vs2 ds2 μ2 s2 r2 p2 q2 => ?_) (hx.step s1)⟩
      try dsimp only at q2
      split at q2
      · rename_i xs e2
        have hl2 := pre_get s2.pre hl
        obtain ⟨hb, us, g1, g2⟩ := r2.cell _ _ _ hl2 e2
        split at q2
        · rename_i d zs e3
          refine hg n2.Hb n2.al n2.H a us vs2 xs ds2 d zs Q g1 g2 p2 e3 fun v ws rv rw' => ?_
          exact hq (n2.more a (.lst ws)) v d _ ((s1.trans s2).trans (Step.write hl2 hb)) (r2.write hl2 hb (c := .lst zs) ⟨hb, ws, upd_same, rw'⟩ (fun k z => by cases z)) rv q2
        · exact q2.elim
      · exact q2.elim
    · exact q1.elim
  | _ => exact q1.elim
def cAppend : List D → List D → Option (D × List D) := fun xs ds => match ds with
  | [d] => if xs.length < sizeLine then some (.non, xs ++ [d]) else none
  | _ => none
theorem op_append {K : PySem.W.Frag} : CellOp K rAppend cAppend := fun Hb al H p us vs xs ds d ys Q hp r1 r2 hg k => by
  unfold cAppend at hg
  split at hg
  · split at hg
    · rename_i hl
      cases hg
      cases r2 with
      | cons q1 q2 =>
        cases q2
        exact ⟨p, us, _, rfl, rfl, hp, by rw [r1.length]; exact hl, k _ _ .non (r1.append (.cons q1 .nil))⟩
    · cases hg
  · cases hg
theorem de_append (ho : DE X W o fa) (ha : DE X W e fb) (hbase : attributeBase o "append" X.env (eval o X.env) = eval o X.env := by rfl)
    (hfew : ((backTo pos (starEach [e] X.env)).all (fun x => !x.1) && (backToKw pos (keywordEach [] X.env)).all (fun x => x.1.isSome) && decide ([e].length + ([] : List Keyword).length + (if ([] : List Keyword).isEmpty then 0 else 1) < 30)) = true := by rfl)
    (hline : (apos.endLine == pos.line) = true := by rfl) (hs : starEach [e] X.env = (false, eval e X.env) :: starEach [] X.env := by rfl) (hpl : (backTo pos (starEach [] X.env)).any (·.1) = false := by rfl) :
    DE X W (.Call (.Attribute o "append" apos) [e] [] pos) (dCellM cAppend fa (dCons fb dNil)) :=
  PE.imp (pe_bm PySem.F.plainAttrs_list PySem.F.slot_list_append PySem.F.type_list_append mt_append ho (da_cons ha da_nil hs) hbase hfew hline hs hpl) fun σ H Q h => cellm_go op_append σ H Q h
/-! ### x[i] = v on a cell -/
def dSetI (fo fi : DTE) : DTG := fun d Γ μ Q E => fo Γ μ (fun x μ1 => fi Γ μ1 (fun i μ2 => match x, i with
  | .ref l, .int k => (match μ2[l]? with
    | some (.lst xs) => (match ixN xs.length k with | some j => Q Γ (μ2.set l (.lst (xs.set j d))) | none => False)
    | _ => False)
  | _, _ => False) E) E
theorem dg_setI {i : Expr} (ho : DE X W o fa) (hi : DE X W i fb) (h : PG X (.Subscript o i pos) (gSub (lift X.K W fa) (lift X.K W fb) rSetL)) : DG X W (.Subscript o i pos) (dSetI fa fb) := PG.imp h fun v σ H Q ⟨n, d, Γ, μ, Qd, Ed, hH, sr, gr, rp, h, hq, hx⟩ => by
  subst hH
  refine lift_go sr gr h (fun n1 x dx μ1 s1 r1 p1 q1 => lift_go r1 (gr.step s1) q1 (fun n2 y dy μ2 s2 r2 p2 q2 => ?_) (hx.step s1)) hx
  cases p1 with
  | @ref l a hl =>
    cases p2 with
    | int k =>
      dsimp only at q2
      split at q2
      · rename_i xs e
        split at q2
        · rename_i j e2
          have hl2 := pre_get s2.pre hl
          obtain ⟨hb, us, g1, g2⟩ := r2.cell _ _ _ hl2 e
          refine ⟨a, us, k, j, rfl, rfl, g1, by rw [g2.length]; exact e2, ?_⟩
          exact hq (n2.more a (.lst (us.set j v))) Γ σ _ ((s1.trans s2).trans (Step.write hl2 hb)) (r2.write hl2 hb (c := .lst (xs.set j d)) ⟨hb, _, upd_same, Reps.set ((s1.trans s2).rep rp) j g2⟩ (fun k z => by cases z)) ((gr.step (s1.trans s2)).step (Step.write hl2 hb)) q2
        · exact q2.elim
      · exact q2.elim
    | _ => exact q2.elim
  | _ => exact q2.elim
end
end DV
namespace DV
open PySem PySem.Spec PyProof.Rows L2
/-! ### slices -/
def cutL {α : Type} (xs : List α) (lo hi : Option Int) : List α := (xs.drop (HT.sIx xs.length 0 lo)).take (HT.sIx xs.length xs.length hi - HT.sIx xs.length 0 lo)
theorem reps_cut {K : PySem.W.Frag} {Hb : Hp} {al : List Addr} {vs : List V} {ds : List D} (r : Reps K Hb al vs ds) (lo hi : Option Int) : Reps K Hb al (cutV vs lo hi) (cutL ds lo hi) := by
  unfold cutV cutL
  rw [r.length]
  exact (r.drop _).take _
abbrev DTO := Gam → Mu → (Option Int → Mu → Prop) → (Exn → Mu → Prop) → Prop
def dNoPart : DTO := fun _ μ Q _ => Q none μ
def dPart (f : DTE) : DTO := fun Γ μ Q E => f Γ μ (fun d μ1 => match d with | .int i => Q (some i) μ1 | _ => False) E
def liftO (K : PySem.W.Frag) (W : WX) (f : DTO) : TO := fun σ H Q => ∃ n Γ μ Qd Ed, n.H = H ∧ SR0 K n μ ∧ GR K n Γ σ ∧ f Γ μ Qd Ed ∧
  (∀ n' o μ', Step n n' → SR0 K n' μ' → Qd o μ' → Q o n'.H) ∧ XLink K W n Γ σ Ed
def dSlice (fz : Bool) (f : DTE) (lo hi : DTO) : DTE := fun Γ μ Q E => f Γ μ (fun d μ1 => lo Γ μ1 (fun l μ2 => hi Γ μ2 (fun h μ3 => match lk μ3 d with
  | .lst xs => dFin fz (cutL xs l h) μ3 Q
  | .tup xs => Q (.tup (cutL xs l h)) μ3
  | .str z => z.length ≤ sizeLine ∧ Q (.str (cutS z l h)) μ3
  | _ => False) E) E) E
theorem cut_whole {α : Type} (xs : List α) (lo hi : Option Int) (h : HT.sIx xs.length 0 lo = 0 ∧ HT.sIx xs.length xs.length hi = xs.length) : cutL xs lo hi = xs := by
  unfold cutL
  rw [h.1, h.2]; simp
section
variable {X : Cx} {W : WX} {a e o i : Expr} {lo hi : Option Expr} {p2 pos : Pos} {fa fb fc : DTE} {fl fh : DTO}
theorem do_none : PO X none (liftO X.K W dNoPart) := ⟨fun pins s σ H Q I ⟨n, Γ, μ, Qd, Ed, hH, sr, gr, h, hq, hx⟩ => by
  subst hH
  exact (po_none (X := X)).run pins s σ n.H Q I (hq n none μ (Step.refl n) sr h)⟩
theorem do_some (h : DE X W e fa) : PO X (some e) (liftO X.K W (dPart fa)) := ⟨fun pins s σ H Q I ⟨n, Γ, μ, Qd, Ed, hH, sr, gr, hd, hq, hx⟩ => by
  subst hH
  refine (po_some h).run pins s σ n.H Q I (lift_go sr gr hd (fun n1 x dx μ1 s1 r1 p1 q1 => ?_) hx)
  cases p1 with
  | int j => exact ⟨j, rfl, hq n1 _ μ1 s1 r1 q1⟩
  | _ => exact q1.elim⟩
theorem de_slice (fz : Bool) (he : DE X W e fa) (hl : PO X lo (liftO X.K W fl)) (hu : PO X hi (liftO X.K W fh)) : DE X W (.Subscript e (.Slice lo hi none p2) pos) (dSlice fz fa fl fh) :=
  PE.imp (pe_slice (SlR.or sl_list (SlR.or sl_tupA sl_str)) he hl hu) fun σ H Q ⟨n, Γ, μ, Qd, Ed, hH, sr, gr, h, hq, hx⟩ => by
  subst hH
  refine lift_go sr gr h (fun n1 x dx μ1 s1 r1 p1 q1 => ⟨n1, Γ, μ1, _, _, rfl, r1, gr.step s1, q1, fun n2 l μ2 s2 r2 q2 => ⟨n2, Γ, μ2, _, _, rfl, r2, (gr.step s1).step s2, q2, fun n3 h μ3 s3 r3 q3 => ?_, (hx.step s1).step s2⟩, hx.step s1⟩) hx
  have st := (s1.trans s2).trans s3
  have p3 := (s2.trans s3).rep p1
  try dsimp only at q3
  split at q3
  · rename_i xs e
    obtain ⟨a, vs, rfl, h1, h2⟩ := see_lst r3 p3 e
    exact .inl ⟨a, vs, rfl, SqL.of h1, fun p hp => fin_lst (LV.step hq st) r3 hp (reps_cut h2 l h) q3⟩
  · rename_i xs e
    obtain ⟨a, vs, rfl, h1, h0, h2⟩ := see_tup r3 p3 e
    refine .inr (.inl ⟨a, vs, rfl, SqT.of h1, fun z => ?_, fun z p hp => new_tup (LV.step hq st) r3 hp (reps_cut h2 l h) q3⟩)
    rw [h2.length] at z
    rw [cut_whole xs l h z] at q3
    exact hq n3 _ _ μ3 st r3 (.tup h0 h2) q3
  · rename_i z e
    rw [lk_str e] at p3
    cases p3
    exact .inr (.inr ⟨z, rfl, q3.1, hq n3 _ _ μ3 st r3 (.str _) q3.2⟩)
  · exact q3.elim
/-! ### x[i] += e, on a cell -/
theorem pget_list : PGet X (fun o i H Q => ∃ p xs k v, o = .ref p ∧ i = .int k ∧ SqL X.K H p xs ∧ 0 ≤ k ∧ xs[k.toNat]? = some v ∧ Q v H) := by
  intro pins s σ H o i ov iv Q I ro ri h
  obtain ⟨p, xs, k, v, rfl, rfl, hq, h0, he, q⟩ := h
  cases ro
  obtain ⟨t, rfl⟩ := ri
  obtain ⟨its, r, pl, hz⟩ := I.list hq
  obtain ⟨u, eu, ru⟩ := r.get he
  have hl := r.length
  have hn := line63
  have hk : k.toNat < xs.length := (List.getElem?_eq_some_iff.mp he).1
  exact wpAny_getItem_list pl.isList h0 (by omega) (by simpa using eu) ⟨v, H, I, ru, q⟩
def dAugI (g : Int → Int → Int) (fo fi fe : DTE) : DTS := fun D Γ μ => fo Γ μ (fun x μ1 => fi Γ μ1 (fun i μ2 => match x, i with
  | .ref l, .int k => 0 ≤ k ∧ (match μ2[l]? with
    | some (.lst xs) => (match xs[k.toNat]? with
      | some (.int old) => fe Γ μ2 (fun y μ3 => match y with
        | .int b => (match μ3[l]? with
          | some (.lst ys) => k.toNat < ys.length ∧ D.nx Γ (μ3.set l (.lst (ys.set k.toNat (.int (g old b)))))
          | _ => False)
        | _ => False) (fun x μ1 => D.ex x Γ μ1)
      | _ => False)
    | _ => False)
  | _, _ => False) (fun x μ1 => D.ex x Γ μ1)) (fun x μ1 => D.ex x Γ μ1)
theorem ds_augI {g : Int → Int → Int} {op : Operator} {tpos : Pos} (ho : DE X W o fa) (hi : DE X W i fb) (he : DE X W e fc) (hp : PIp X op (ipI g)) (ha : ∀ ov iv new, augStore i ov iv new = (do holding [new, ov, iv] (setItem ov iv new); release [new, ov, iv] []; pure .next) := by intros; rfl) :
    DS X W (.AugAssign (.Subscript o i tpos) op e pos) (dAugI g fa fb fc) := PS.imp (ps_augS ho hi pget_list he hp set_list ha) fun Dn σ H ⟨A, n, Γ, μ, Dd, hH, sa, sr, gr, h, l⟩ => by
  subst hH
  have hx := l.x sa gr
  refine lift_go sr gr h (fun n1 x dx μ1 s1 r1 p1 q1 => lift_go r1 (gr.step s1) q1 (fun n2 y dy μ2 s2 r2 p2 q2 => ?_) (hx.step s1)) hx
  cases p1 with
  | @ref m a hl =>
    cases p2 with
    | int k =>
      obtain ⟨h0, q2⟩ := q2
      split at q2
      · rename_i xs e
        split at q2
        · rename_i old e2
          have hl2 := pre_get s2.pre hl
          obtain ⟨hb, us, g1, g2⟩ := r2.cell _ _ _ hl2 e
          obtain ⟨v, e3, e4⟩ := g2.get e2
          refine ⟨a, us, k, v, rfl, rfl, SqL.of g1, h0, e3, ?_⟩
          refine lift_go r2 ((gr.step s1).step s2) q2 (fun n3 z dz μ3 s3 r3 p3 q3 => ?_) ((hx.step s1).step s2)
          cases p3 with
          | int b =>
            cases e4
            refine ⟨old, b, rfl, rfl, ?_⟩
            dsimp only at q3
            split at q3
            · rename_i ys e5
              have hl3 := pre_get s3.pre hl2
              obtain ⟨hb3, ws, g3, g4⟩ := r3.cell _ _ _ hl3 e5
              refine ⟨a, ws, k, k.toNat, rfl, rfl, g3, ?_, ?_⟩
              · unfold ixN
                rw [if_pos h0, if_pos (by rw [g4.length]; omega)]
              · have st := ((sa.trans s1).trans s2).trans s3
                exact l.nx (n3.more a (.lst (ws.set k.toNat (.int (g old b))))) Γ σ _ (st.trans (Step.write hl3 hb3)) (r3.write hl3 hb3 (c := .lst (ys.set k.toNat (.int (g old b)))) ⟨hb3, _, upd_same, Reps.set (.int _) _ g4⟩ (fun k z => by cases z)) ((((gr.step s1).step s2).step s3).step (Step.write hl3 hb3)) q3.2
            · exact q3.elim
          | _ => exact q3.elim
        · exact q2.elim
      · exact q2.elim
    | _ => exact q2.elim
  | _ => exact q2.elim
/-! ### tests by truth -/
def truD : D → Option Bool
  | .non => some false
  | .bl b => some b
  | .int i => some (i != 0)
  | .lst xs => some (!xs.isEmpty)
  | .tup xs => some (!xs.isEmpty)
  | _ => none
def dTruth (f : DTE) : DTT := fun Γ μ Q E => f Γ μ (fun d μ1 => match lk μ1 d with
  | .str z => z.length ≤ sizeLine ∧ Q ((z.length : Int) != 0) μ1
  | d' => (match truD d' with | some b => Q b μ1 | none => False)) E
end
end DV
namespace DV
open PySem PySem.Spec PyProof.Rows L2
def pick {α : Type} (π : List Nat) (l : List α) : List α := π.filterMap (l[·]?)
/-- how positional arguments (np of them) and keywords ks come to the parameters ps: by places -/
def KBd (K : PySem.W.Frag) (fd : FuncData) (ps : List Str) (np : Nat) (ks : List Str) (π : List Nat) : Prop :=
  ∀ (s : Shared) (us ws : List Value), K.In s.heap → us.length = np → ws.length = ks.length → BindsTo s fd ⟨us, ks.zip ws⟩ (ps.zip (pick π (us ++ ws)))
section
variable {X : Cx} {W : WX} {k : Nat} {f : Addr} {fd : FuncData} {ps ks : List Str} {S : DSp} {x : Str} {p pos kpos : Pos} {e : Expr} {es : List Expr} {kws : List Keyword} {fa : DTE} {fr fk : DTA} {nm : Option Str} {π : List Nat} {np : Nat}
theorem run_deep {pins : List (Addr × Obj)} {σ : L2.St} {H : Hp} {s : Shared} {Q : VK} {us ws : List Value} {kw : List (Str × Value)} {vs : List V} (F : FnOk X.prog X.w X.K X.mg X.base (L2N.CX X.prog X.w) k f fd ps (spOf X.K S)) (hr : Room k X.A) (tk : L2N.Takes X W)
    (I : Inv X pins σ H s) (hb : BindsTo s fd ⟨us, kw⟩ (ps.zip ws)) (r : Vals vs ws) (h : spOf X.K S vs H Q (WE W σ)) : wpAny (model X.prog X.w) X.A (call (.ref f) us kw) (EP X pins σ Q) X.xe s := by
  refine wpAny_call (codeAny_mono (F.run X.A X.stack s H ⟨us, kw⟩ ws vs Q (WE W σ) hr I.env0 hb r h) ?_)
  intro res s' hq
  match res, hq with
  | .error e, hq => exact L2N.passAt tk σ pins H s e s' I hq
  | .ok (.ret u), hq => exact I.after hq
theorem de_call0 (F : FnOk X.prog X.w X.K X.mg X.base (L2N.CX X.prog X.w) k f fd [] (spOf X.K S)) (hr : Room k X.A) (hg : Gl X x) (hm : X.mg x = some (.ref f)) (hk : PySem.W.keepIn X.K (.ref f) = true) (hb : Binds X.K fd [] []) (tk : L2N.Takes X W) (hdb : (x == ("__debug__" : Str)) = false := by decide) :
    DE X W (.Call (.Name x p) [] [] pos) (dOp S dNil) := by
  refine ⟨fun pins s σ H Q I ⟨n, Γ, μ, Qd, Ed, hH, sr, gr, h, hq, hx⟩ => ?_⟩
  subst hH
  refine wpAny_Call_Name_kw (ld_glob I hg hm ?_ hdb)
  exact PySem.W.callWith_K0 I.kIn hk (run_deep (ws := []) F hr tk I (hb s [] I.kIn rfl) .nil ⟨n, [], μ, Qd, Ed, rfl, sr, .nil, h, hq, fun n' cls dd y μ' s' r' => hx n' cls dd y μ' s' r'⟩)
abbrev DK (X : Cx) (W : WX) (kws : List Keyword) (f : DTA) : Prop := PK X kws (liftA X.K W f)
theorem PK.imp {t t' : TA} (h : PK X kws t) (hi : ∀ σ H Q, t' σ H Q → t σ H Q) : PK X kws t' := ⟨fun pos pins s σ H Q I q => h.run pos pins s σ H Q I (hi _ _ _ q)⟩
theorem dk_nil : DK X W [] dNil := PK.imp pk_nil fun σ H Q ⟨n, Γ, μ, Qd, Ed, hH, sr, gr, h, hq, hx⟩ => by
  subst hH
  exact hq n [] [] μ (Step.refl n) sr .nil h
theorem dk_cons (ha : DE X W e fa) (hr : DK X W kws fr) : DK X W (⟨nm, e, kpos⟩ :: kws) (dCons fa fr) := PK.imp (pk_cons ha hr) fun σ H Q ⟨n, Γ, μ, Qd, Ed, hH, sr, gr, h, hq, hx⟩ => by
  subst hH
  refine lift_go sr gr h (fun n1 x dx μ1 s1 r1 p1 q1 => liftA_go r1 (gr.step s1) q1 (fun n2 y dy μ2 s2 r2 p2 q2 => ?_) (hx.step s1)) hx
  exact hq n2 _ _ μ2 (s1.trans s2) r2 (.cons (s2.rep p1) p2) q2
/-- f(e, .., k = v, ..): the arguments by the places π -/
def dOpK (S : DSp) (π : List Nat) (np nk : Nat) (fr fk : DTA) : DTE := fun Γ μ Q E => fr Γ μ (fun xs μ1 => xs.length = np ∧ fk Γ μ1 (fun ys μ2 => ys.length = nk ∧ S (pick π (xs ++ ys)) μ2 Q E) E) E
end
end DV
namespace DV
open PySem PySem.Spec PyProof.Rows L2
def revS (z : Str) : Str := ⟨z.cps.toList.reverse.toArray⟩
section
variable {X : Cx} {W : WX} {e : Expr} {k : Nat} {q1 q2 q3 pos : Pos} {fa : DTE}
def dRevA (fz : Bool) (f : DTE) : DTE := fun Γ μ Q E => f Γ μ (fun d μ1 => match lk μ1 d with
  | .lst xs => dFin fz xs.reverse μ1 Q
  | .str z => z.length ≤ sizeLine ∧ Q (.str (revS z)) μ1
  | _ => False) E
end
/-! ### a def as its callers see it -/
def Has (P : Program) (w : World) (K : PySem.W.Frag) (mg : Str → Option Value) (base : Heap) (x : Str) (k : Nat) (ps : List Str) (S : DSp) (kb : FuncData → Prop) : Prop :=
  ∃ (f : Addr) (fd : FuncData), mg x = some (.ref f) ∧ PySem.W.keepIn K (.ref f) = true ∧ Binds K fd ps [] ∧ kb fd ∧ FnOk P w K mg base (L2N.CX P w) k f fd ps (spOf K S)
section
variable {X : Cx} {W : WX} {k : Nat} {ps ks : List Str} {S : DSp} {kb : FuncData → Prop} {x : Str} {p pos : Pos} {e : Expr} {es : List Expr} {kws : List Keyword} {fr fk : DTA} {π : List Nat} {np nk : Nat}
theorem de_fnH (h : Has X.prog X.w X.K X.mg X.base x k ps S kb) (hr : Room k X.A) (hg : Gl X x) (tk : L2N.Takes X W) (ha : DA X W (e :: es) fr) (hdb : (x == ("__debug__" : Str)) = false := by decide)
    (he : starEach (e :: es) X.env = (false, eval e X.env) :: starEach es X.env := by rfl) (hpl : (backTo pos (starEach es X.env)).any (·.1) = false := by rfl) : DE X W (.Call (.Name x p) (e :: es) [] pos) (dOp S fr) := by
  obtain ⟨f, fd, h1, h2, h3, _, h5⟩ := h
  exact de_fn h5 hr hg h1 h2 h3 tk ha hdb he hpl
theorem de_c0H (h : Has X.prog X.w X.K X.mg X.base x k [] S kb) (hr : Room k X.A) (hg : Gl X x) (tk : L2N.Takes X W) (hdb : (x == ("__debug__" : Str)) = false := by decide) : DE X W (.Call (.Name x p) [] [] pos) (dOp S dNil) := by
  obtain ⟨f, fd, h1, h2, h3, _, h5⟩ := h
  exact de_call0 h5 hr hg h1 h2 h3 tk hdb
end
end DV
namespace DV
open PySem PySem.Spec PyProof.Rows L2
theorem atI_nat' {α : Type} {xs : List α} {i : Int} {d : α} (h0 : 0 ≤ i) (h : xs[i.toNat]? = some d) : atI xs i = some d := by
  have hl := (List.getElem?_eq_some_iff.mp h).1
  unfold atI ixN
  rw [if_pos h0, if_pos (by omega)]
  exact h
theorem atI_zero {α : Type} {x : α} {xs : List α} : atI (x :: xs) 0 = some x := atI_nat' (by decide) rfl
theorem sgn_one (c : Nat) : sgn ⟨#[c]⟩ = some c := rfl
end DV
local macro_rules | `(tactic| walk_at "dv") => `(tactic| try simp only [DV.dSeq, DV.dIf, DV.dOrT, DV.dAndT, DV.dNotT, DV.dTest, DV.dChain, DV.dC, DV.dCall, DV.gLen, DV.dCons, DV.dVar, DV.dNil, DV.dBin, DV.dUn, DV.gNeg, DV.gIn, DV.gIx, DV.dRet, DV.dRetN, DV.dNext, DV.dFor, DV.dIter, DV.dName, DV.lk, DV.dAsg, DV.dDrop, DV.gLst, DV.gTup, DV.gLstM, DV.gAdd, DV.gI, DV.gMod, DV.gMul, DV.gFdiv, DV.gPow, DV.gAbs, DV.gInt, DV.gList, DV.gTuple, DV.dOp, DV.dOpK, DV.dIsi, DV.tyD, DV.gIs, DV.gIsNot, DV.D.isN, DV.dJoin, DV.dCellM, DV.dSetI, DV.dSlice, DV.dPart, DV.dNoPart, DV.dRevA, DV.dFin, DV.dAugI, DV.dComp, DV.wipeG, DV.cName, DV.cPair, DV.dYes, DV.dRange1, DV.dRange2, DV.dAnd, DV.dOr, DV.dNot, DV.dIfE, DV.gEq, DV.gNe, DV.sgn_one, DV.atI_zero, DV.dTruth, DV.truD, DV.dBreak, DV.dCont,
  List.getElem?_cons_zero, List.getElem?_cons_succ, List.set_cons_zero, List.set_cons_succ, List.map_cons, List.map_nil, List.length_cons, List.length_nil, List.replicate, List.cons_append, List.nil_append, DV.start0, if_true, if_false, Bool.not_true, Bool.not_false, Bool.false_eq_true, Bool.true_and, Bool.and_true, Bool.or_true, Bool.true_or, Bool.false_or, Bool.or_false, eq_self_iff_true, not_true_eq_false, not_false_eq_true, ite_true, ite_false, cond_true, cond_false])
namespace DV
open PySem PySem.Spec PyProof.Rows L2
def LET : Str := "abcdefghijklmnopqrstuvwxyz"
def DIG : Str := "0123456789"
/-- a name, by its code points -/
def isLet (c : Nat) : Bool := decide (c ∈ LET.cps.toList)
def isAln (c : Nat) : Bool := decide (c ∈ LET.cps.toList) || decide (c ∈ DIG.cps.toList)
def validC (l : List Nat) : Bool := decide (1 ≤ l.length) && decide (l.length ≤ 6) && (match l with | c :: _ => isLet c | [] => false) && l.all isAln
def validN (z : Str) : Bool := validC z.cps.toList
end DV
namespace DV
open PySem PySem.Spec PyProof.Rows L2
def t_draw : DTS := dSeq (dAugI (fun i j => i + j) (dVar 0) (dC (.int 2)) (dC (.int 1))) (dSeq (dWhile (dAndT (dTest (dBin gNe (dBin gIx (dVar 0) (dC (.int 0))) (dCall gLst (dNil)))) (dTest (dBin gEq (dBin gIx (dBin gIx (dVar 0) (dC (.int 0))) (dC (.int 0))) (dC (.int 0))))) (dAsg (dSlice false (dBin gIx (dVar 0) (dC (.int 0))) (dPart (dC (.int 1))) dNoPart) (dSetI (dVar 0) (dC (.int 0))))) (dSeq (dIf (dTest (dBin gNe (dBin gIx (dVar 0) (dC (.int 0))) (dCall gLst (dNil)))) (dSeq (dAsg (dBin gMod (dCall gInt (dCons (dBin gIx (dBin gIx (dVar 0) (dC (.int 0))) (dC (.int 0))) dNil)) (dVar 1)) (dName 2)) (dSeq (dAsg (dBin gFdiv (dBin gIx (dBin gIx (dVar 0) (dC (.int 0))) (dC (.int 0))) (dVar 1)) (dSetI (dBin gIx (dVar 0) (dC (.int 0))) (dC (.int 0)))) (dRet (dVar 2)))) (dNext)) (dSeq (dAsg (dBin gMod (dCall gInt (dCons (dBin gIx (dBin gIx (dVar 0) (dC (.int 1))) (dBin gMod (dCall gInt (dCons (dBin gIx (dVar 0) (dC (.int 2))) dNil)) (dCall gLen (dCons (dBin gIx (dVar 0) (dC (.int 1))) dNil)))) dNil)) (dC (.int 2147483647))) (dName 3)) (dSeq (dAsg (dBin gMod (dCall gInt (dCons (dBin gPow (dBin gAdd (dBin gAdd (dBin gMul (dVar 3) (dC (.int 48271))) (dBin gMul (dBin gIx (dVar 0) (dC (.int 2))) (dC (.int 69621)))) (dC (.int 7))) (dC (.int 5))) dNil)) (dC (.int 2147483647))) (dName 4)) (dRet (dBin gMod (dBin gMod (dCall gInt (dCons (dBin gPow (dBin gAdd (dBin gAdd (dBin gMul (dVar 4) (dC (.int 16807))) (dBin gMul (dBin gIx (dVar 0) (dC (.int 2))) (dC (.int 40692)))) (dC (.int 13))) (dC (.int 5))) dNil)) (dC (.int 2147483629))) (dVar 1)))))))
structure StA (μ : Mu) (l l0 l1 : Nat) (k : Int) (xs ys : List Int) : Prop where
  c : μ[l]? = some (.lst [.ref l0, .ref l1, .int k])
  c0 : μ[l0]? = some (.lst (xs.map .int))
  c1 : μ[l1]? = some (.lst (ys.map .int))
  n0 : l ≠ l0
  n1 : l ≠ l1
  n01 : l0 ≠ l1
theorem okn_ints (k : Nat) (xs : List Int) : D.okn (k + 1) (.lst (xs.map D.int)) = true := by
  simp [D.okn]
theorem eqv_nil (xs : List Int) (k : Nat) : PyData.eqv (D.py (k + 1) (.lst (xs.map D.int))) (D.py (k + 1) (.lst [])) = xs.isEmpty := by
  cases xs with
  | nil => simp [D.py, PyData.eqv, PyData.eqvAll]
  | cons x xs => simp [D.py, PyData.eqv, PyData.eqvAll]
theorem deq_int (μ : Mu) (i j : Int) : deq μ (.int i) (.int j) = decide (i = j) := by
  show PyData.eqv (.int i) (.int j) = _
  simp only [PyData.eqv]
  rfl
theorem deqOk_int (μ : Mu) (i j : Int) : deqOk μ (.int i) (.int j) := ⟨rfl, rfl⟩
theorem lk_cell {μ : Mu} {l : Nat} {xs : List D} (h : μ[l]? = some (.lst xs)) : lk μ (.ref l) = .lst xs := by
  unfold lk; dsimp only; rw [h]
theorem deq_nil {μ : Mu} {l : Nat} {xs : List Int} (h : μ[l]? = some (.lst (xs.map .int))) : deqOk μ (.ref l) (.lst []) ∧ deq μ (.ref l) (.lst []) = xs.isEmpty := by
  unfold deqOk deq
  rw [lk_cell h]
  exact ⟨⟨okn_ints 11 xs, rfl⟩, eqv_nil xs 11⟩
/-- what a draw leaves of the other cells -/
def FrA (μ : Mu) (l l0 : Nat) (μ' : Mu) (l0' : Nat) : Prop := μ.length ≤ μ'.length ∧ (∀ i, i < μ.length → i ≠ l → i ≠ l0 → μ'[i]? = μ[i]?) ∧ (∃ zs, μ'[l0]? = some (.lst zs)) ∧ (l0' = l0 ∨ μ.length ≤ l0')
def S_drawE : DSp := fun ds μ Q _ => ∃ l l0 l1 k xs ys m, ds = [.ref l, .int m] ∧ StA μ l l0 l1 k xs ys ∧ 0 < m ∧ m.natAbs.log2 < 9000 ∧ 0 ≤ k ∧ k + 1 ≤ 1099511627776 ∧ (∀ x ∈ xs, 0 ≤ x) ∧ ys ≠ [] ∧
  ∀ d μ' l0' xs', 0 ≤ d → d < m → StA μ' l l0' l1 (k + 1) xs' ys → xs'.length ≤ xs.length → (∀ x ∈ xs', 0 ≤ x) → FrA μ l l0 μ' l0' → Q (.int d) μ'
def bodyA : DTS := dAsg (dSlice false (dBin gIx (dVar 0) (dC (.int 0))) (dPart (dC (.int 1))) dNoPart) (dSetI (dVar 0) (dC (.int 0)))
def testA : DTT := dAndT (dTest (dBin gNe (dBin gIx (dVar 0) (dC (.int 0))) (dCall gLst (dNil)))) (dTest (dBin gEq (dBin gIx (dBin gIx (dVar 0) (dC (.int 0))) (dC (.int 0))) (dC (.int 0))))
theorem StA.ix0 {μ : Mu} {l l0 l1 : Nat} {k : Int} {xs ys : List Int} (h : StA μ l l0 l1 k xs ys) (Q : D → Mu → Prop) : gIx (.ref l) (.int 0) μ Q = Q (.ref l0) μ := by
  unfold gIx; rw [lk_cell h.c]; rfl
theorem StA.ix1 {μ : Mu} {l l0 l1 : Nat} {k : Int} {xs ys : List Int} (h : StA μ l l0 l1 k xs ys) (Q : D → Mu → Prop) : gIx (.ref l) (.int 1) μ Q = Q (.ref l1) μ := by
  unfold gIx; rw [lk_cell h.c]; rfl
theorem StA.ix2 {μ : Mu} {l l0 l1 : Nat} {k : Int} {xs ys : List Int} (h : StA μ l l0 l1 k xs ys) (Q : D → Mu → Prop) : gIx (.ref l) (.int 2) μ Q = Q (.int k) μ := by
  unfold gIx; rw [lk_cell h.c]; rfl
theorem StA.ix00 {μ : Mu} {l l0 l1 : Nat} {k x : Int} {xs ys : List Int} (h : StA μ l l0 l1 k (x :: xs) ys) (Q : D → Mu → Prop) : gIx (.ref l0) (.int 0) μ Q = Q (.int x) μ := by
  unfold gIx; rw [lk_cell h.c0]; simp only [List.map_cons, atI_zero]
theorem cut1 (x : Int) (xs : List Int) : cutL ((x :: xs).map D.int) (some 1) none = xs.map D.int := by
  have h1 : HT.sIx ((x :: xs).map D.int).length 0 (some 1) = 1 := by
    simp [HT.sIx]
  have h2 : HT.sIx ((x :: xs).map D.int).length ((x :: xs).map D.int).length none = xs.length + 1 := by simp [HT.sIx]
  unfold cutL
  rw [h1, h2]
  simp
  have := List.take_length (l := xs.map D.int)
  rwa [List.length_map] at this
theorem whileA {l l1 : Nat} {k : Int} {ys : List Int} {De : DEnds} {r : Gam} : ∀ (xs : List Int) (μ : Mu) (l0 : Nat), StA μ l l0 l1 k xs ys →
    (∀ μ' l0' xs', StA μ' l l0' l1 k xs' ys → (∀ x, xs'.head? = some x → x ≠ 0) → xs'.length ≤ xs.length → (∀ x ∈ xs', x ∈ xs) → μ.length ≤ μ'.length → (∀ i, i < μ.length → i ≠ l → μ'[i]? = μ[i]?) → (l0' = l0 ∨ μ.length ≤ l0') → De.nx (some (.ref l) :: r) μ') →
    dWhileN testA bodyA (xs.length + 1) De (some (.ref l) :: r) μ
  | [], μ, l0, h, k1 => by
    obtain ⟨o1, o2⟩ := deq_nil (xs := []) h.c0
    simp only [dWhileN, testA, dAndT, dTest, dBin, dVar, dC, dCall, dNil, gLst, List.getElem?_cons_zero, List.length_nil, h.ix0, gNe, o2]
    refine ⟨by decide, o1, ?_⟩
    simp only [List.isEmpty_nil, Bool.not_true, cond_false]
    exact k1 μ l0 [] h (by simp) (Nat.le_refl _) (by simp) (Nat.le_refl _) (fun _ _ _ => rfl) (.inl rfl)
  | x :: xs, μ, l0, h, k1 => by
    obtain ⟨o1, o2⟩ := deq_nil h.c0
    have hlt : l < μ.length := (List.getElem?_eq_some_iff.mp h.c).1
    have hlt0 : l0 < μ.length := (List.getElem?_eq_some_iff.mp h.c0).1
    have hlt1 : l1 < μ.length := (List.getElem?_eq_some_iff.mp h.c1).1
    rw [List.length_cons, dWhileN]
    simp only [testA, dAndT, dTest, dBin, dVar, dC, dCall, dNil, gLst, List.getElem?_cons_zero, List.length_nil, h.ix0, gNe, o2, List.isEmpty_cons, Bool.not_false, cond_true, h.ix00, gEq, deq_int]
    refine ⟨by decide, o1, deqOk_int _ _ _, ?_⟩
    by_cases hx : x = 0
    · rw [decide_eq_true hx, cond_true]
      -- state[0] = state[0][1:]
      simp only [bodyA, dAsg, dSlice, dBin, dVar, dC, dPart, dNoPart, List.getElem?_cons_zero, h.ix0, lk_cell h.c0, dFin, cut1]
      have g : (μ ++ [Cell.lst (xs.map D.int)])[l]? = some (.lst [.ref l0, .ref l1, .int k]) := by rw [List.getElem?_append_left hlt]; exact h.c
      simp only [dSetI, dVar, dC, List.getElem?_cons_zero, g]
      show match ixN 3 0 with | some j => _ | none => False
      show dWhileN testA bodyA (xs.length + 1) De (some (.ref l) :: r) ((μ ++ [Cell.lst (xs.map D.int)]).set l (.lst [.ref μ.length, .ref l1, .int k]))
      have ga : ∀ i, i < μ.length → i ≠ l → ((μ ++ [Cell.lst (xs.map D.int)]).set l (.lst [.ref μ.length, .ref l1, .int k]))[i]? = μ[i]? := fun i h1 h2 => by
        rw [List.getElem?_set_ne (Ne.symm h2), List.getElem?_append_left h1]
      refine whileA xs _ μ.length ⟨by rw [List.getElem?_set_self (by simp; omega)], by rw [List.getElem?_set_ne (by omega)]; simp, by rw [ga l1 hlt1 (Ne.symm h.n1)]; exact h.c1, by omega, h.n1, by omega⟩ fun μ' l0' xs' a1 a2 a3 a4 a5 a6 a7 => ?_
      rw [List.length_set, List.length_append] at a5 a7
      refine k1 μ' l0' xs' a1 a2 (by simp; omega) (fun y hy => by simp [a4 y hy]) (by simp at a5; omega) (fun i h1 h2 => ?_) ?_
      · rw [a6 i (by simp; omega) h2, ga i h1 h2]
      · rcases a7 with a7 | a7
        · exact .inr (by omega)
        · exact .inr (by simp at a7; omega)
    · rw [decide_eq_false hx, cond_false]
      exact k1 μ l0 (x :: xs) h (by simpa using hx) (Nat.le_refl _) (fun _ h => h) (Nat.le_refl _) (fun _ _ _ => rfl) (.inl rfl)
theorem fmod_lt {d m : Int} (h : 0 < m) : 0 ≤ d.fmod m ∧ d.fmod m < m := ⟨Int.fmod_nonneg_of_pos d h, Int.fmod_lt_of_pos d h⟩
theorem pow_ok {i : Int} (h : 0 ≤ i) (h2 : i < 18446744073709551616) : (0 : Int) ≤ 5 ∧ (5 : Int) ≤ 1000000 ∧ i.natAbs < 2 ^ 64 := ⟨by decide, by decide, by omega⟩
theorem rd_drawE : ∀ ds μ Q E, S_drawE ds μ Q E → t_draw (dFn μ Q E) (start0 ["_law_state", "_law_size", "_law_digit", "_law_cell", "_law_one"] ds) μ := by
  rintro _ μ Q E ⟨l, l0, l1, k, xs, ys, m, rfl, h, hm, hm2, hk0, hk1, hx0, hy, q⟩
  have hlt : l < μ.length := (List.getElem?_eq_some_iff.mp h.c).1
  unfold t_draw
  simp only [dSeq, dAugI, dVar, dC, start0, List.map_cons, List.map_nil, List.length_cons, List.length_nil, List.replicate, List.cons_append, List.nil_append, List.getElem?_cons_zero, h.c]
  refine ⟨by decide, ?_⟩
  show _ ∧ _
  refine ⟨by decide, ?_⟩
  have h1 : StA (μ.set l (.lst [.ref l0, .ref l1, .int (k + 1)])) l l0 l1 (k + 1) xs ys :=
    ⟨by rw [List.getElem?_set_self hlt], by rw [List.getElem?_set_ne h.n0]; exact h.c0, by rw [List.getElem?_set_ne h.n1]; exact h.c1, h.n0, h.n1, h.n01⟩
  refine ⟨xs.length + 1, whileA xs _ l0 h1 fun μ2 l2 xs2 h2 hh hle hin hl2 hf2 ho2 => ?_⟩
  rw [List.length_set] at hl2 ho2
  have hf2' : ∀ i, i < μ.length → i ≠ l → μ2[i]? = μ[i]? := fun i a b => by rw [hf2 i (by rw [List.length_set]; exact a) b, List.getElem?_set_ne (Ne.symm b)]
  have hlt0 : l0 < μ.length := (List.getElem?_eq_some_iff.mp h.c0).1
  obtain ⟨o1, o2⟩ := deq_nil h2.c0
  have hlt2 : l2 < μ2.length := (List.getElem?_eq_some_iff.mp h2.c0).1
  simp only [dSeq, dIf, dTest, dBin, dVar, dC, dCall, dNil, gLst, List.getElem?_cons_zero, List.length_nil, h2.ix0, gNe, o2]
  refine ⟨by decide, o1, ?_⟩
  cases xs2 with
  | cons x xs2 =>
    simp only [List.isEmpty_cons, Bool.not_false, cond_true, dSeq, dAsg, dBin, dCall, dCons, dNil, dVar, dC, List.getElem?_cons_zero, List.getElem?_cons_succ, h2.ix0, h2.ix00, gInt, gMod, gFdiv, dName, List.set_cons_succ, List.set_cons_zero, dSetI, h2.c0, dRet]
    refine ⟨by omega, ⟨hm, hm2⟩, ?_⟩
    have ix : ixN ((x :: xs2).map D.int).length 0 = some 0 := by
      unfold ixN
      rw [if_pos (by decide), if_pos (by simp)]; rfl
    simp only [ix]
    show FnEnd μ (.int (x.fmod m)) (μ2.set l2 (.lst ((D.int (x / m)) :: xs2.map D.int))) Q
    refine FnEnd.here (q _ _ l2 (x / m :: xs2) (fmod_lt hm).1 (fmod_lt hm).2 ⟨by rw [List.getElem?_set_ne (Ne.symm h2.n0)]; exact h2.c, by rw [List.getElem?_set_self hlt2]; rfl, by rw [List.getElem?_set_ne h2.n01]; exact h2.c1, h2.n0, h2.n1, h2.n01⟩ (by simpa using hle) (fun y hy => ?_) ⟨by rw [List.length_set]; exact hl2, fun i a b c => ?_, ?_, ho2⟩)
    · rcases List.mem_cons.mp hy with rfl | hy
      · exact Int.ediv_nonneg (hx0 x (hin x (by simp))) (by omega)
      · exact hx0 y (hin y (by simp [hy]))
    · rw [List.getElem?_set_ne (by rcases ho2 with z | z <;> omega)]
      exact hf2' i a b
    · by_cases e : l2 = l0
      · exact ⟨_, by rw [← e, List.getElem?_set_self hlt2]⟩
      · exact ⟨_, by rw [List.getElem?_set_ne e, hf2' l0 hlt0 (Ne.symm h.n0)]; exact h.c0⟩
  | nil =>
    simp only [List.isEmpty_nil, Bool.not_true, cond_false, dNext]
    -- the cell of the script at the count's place
    have hlen : 0 < ys.length := List.length_pos_iff.mpr hy
    obtain ⟨c, hc⟩ : ∃ c, atI (ys.map D.int) ((k + 1).fmod ((ys.map D.int).length : Int)) = some (D.int c) := by
      have b := fmod_lt (d := k + 1) (m := ((ys.map D.int).length : Int)) (by simp; omega)
      have hi : ((k + 1).fmod ((ys.map D.int).length : Int)).toNat < ys.length := by
        have := b.2; simp at this ⊢; omega
      exact ⟨ys[((k + 1).fmod ((ys.map D.int).length : Int)).toNat], atI_nat' b.1 (by rw [List.getElem?_map, List.getElem?_eq_getElem hi]; rfl)⟩
    have e1 : ∀ Q', gIx (.ref l1) (.int ((k + 1).fmod ((ys.map D.int).length : Int))) μ2 Q' = Q' (.int c) μ2 := fun Q' => by
      unfold gIx; rw [lk_cell h2.c1]; dsimp only; rw [hc]
    have hnz : ((ys.map D.int).length : Int) ≠ 0 := by simp; omega
    simp only [dSeq, dAsg, dBin, dCall, dCons, dNil, dVar, dC, List.getElem?_cons_zero, List.getElem?_cons_succ, h2.ix1, h2.ix2, gInt, gMod, gLen, lk_cell h2.c1, dName, List.set_cons_succ, List.set_cons_zero, e1]
    have bc := fmod_lt (d := c) (m := 2147483647) (by decide)
    generalize c.fmod 2147483647 = c' at bc ⊢
    refine ⟨hnz, by decide, ?_⟩
    simp only [gMul, lk, gAdd, gPow, dRet, dBin, dCall, dCons, dNil, dVar, dC, List.getElem?_cons_zero, List.getElem?_cons_succ, h2.ix2, gInt, gMod]
    refine ⟨.inr ⟨by decide, by decide⟩, .inr ⟨by decide, by decide⟩, pow_ok (by omega) (by omega), by decide, ?_⟩
    have bo := fmod_lt (d := (c' * 48271 + (k + 1) * 69621 + 7) ^ (5 : Int).toNat) (m := 2147483647) (by decide)
    generalize ((c' * 48271 + (k + 1) * 69621 + 7) ^ (5 : Int).toNat).fmod 2147483647 = c2 at bo ⊢
    refine ⟨.inr ⟨by decide, by decide⟩, .inr ⟨by decide, by decide⟩, pow_ok (by omega) (by omega), by decide, by omega, ?_⟩
    generalize ((c2 * 16807 + (k + 1) * 40692 + 13) ^ (5 : Int).toNat).fmod 2147483629 = c3
    refine FnEnd.here (q _ μ2 l2 [] (fmod_lt hm).1 (fmod_lt hm).2 h2 (by simp) (by simp) ⟨hl2, fun i a b _ => hf2' i a b, ⟨_, by rw [hf2' l0 hlt0 (Ne.symm h.n0)]; exact h.c0⟩, ho2⟩)
end DV
namespace DV
open PySem PySem.Spec PyProof.Rows L2
/-- a draw, as the law's defs see it: any number below the size; the oracle has one draw less -/
def S_draw : DSp := fun ds μ Q _ => ∃ l n m, ds = [.ref l, .int m] ∧ μ[l]? = some (.orc (n + 1, true)) ∧ 0 < m ∧ m.natAbs.log2 < 9000 ∧ ∀ d, 0 ≤ d → d < m → Q (.int d) (μ.set l (.orc (n, true)))
theorem reps_ref {K : PySem.W.Frag} {Hb : Hp} {al : List Addr} {vs : List V} {i j : Nat} {k : Int} (r : Reps K Hb al vs [.ref i, .ref j, .int k]) : ∃ a b, vs = [.ref a, .ref b, .int k] ∧ al[i]? = some a ∧ al[j]? = some b := by
  cases r with
  | cons h1 r =>
    cases r with
    | cons h2 r =>
      cases r with
      | cons h3 r =>
        cases r
        cases h1; cases h2; cases h3
        exact ⟨_, _, rfl, by assumption, by assumption⟩
theorem CellAt.sub {K : PySem.W.Frag} {n n' : Now} {a : Addr} {c : Cell} (h : CellAt K n a c) (ho : ∀ k, c ≠ .orc k) (ha : n'.H a = n.H a) (hb : n.Hb a = none → n'.Hb a = none) (s : Same n.Hb n'.Hb) (pr : n.al <+: n'.al) : CellAt K n' a c := by
  cases c with
  | gone => trivial
  | lst ds => obtain ⟨h0, vs, h1, h2⟩ := h; exact ⟨hb h0, vs, ha.trans h1, h2.mono s pr⟩
  | dct kvs => obtain ⟨h0, vs, h1, h2, h3⟩ := h; exact ⟨hb h0, vs, ha.trans h1, h2, h3.mono s pr⟩
  | dtp kvs => obtain ⟨h0, vs, h1, h2, h3⟩ := h; exact ⟨hb h0, vs, ha.trans h1, h2, h3.mono s pr⟩
  | exo C l => obtain ⟨h0, dxo, h1, h2⟩ := h; exact ⟨hb h0, dxo, ha.trans h1, h2.pre pr⟩
  | ins C fs => obtain ⟨h0, dx, vs, h1, h2, h3⟩ := h; exact ⟨hb h0, dx, vs, ha.trans h1, h2, h3.mono s pr⟩
  | orc k => exact absurd rfl (ho k)
  | xdc fs => obtain ⟨h0, us, h1, h2, h3⟩ := h; exact ⟨hb h0, us, ha.trans h1, h2, fun f v e => let ⟨d, e1, e2⟩ := h3 f v e; ⟨d, e1, e2.mono s pr⟩⟩
  | exc dd fs => obtain ⟨h0, he, us, h1, h2, h3⟩ := h; exact ⟨hb h0, he, us, ha.trans h1, h2, fun f v e => let ⟨d, e1, e2⟩ := h3 f v e; ⟨d, e1, e2.mono s pr⟩⟩
theorem CellAt.back {K : PySem.W.Frag} {n n' : Now} {a : Addr} {c : Cell} {ph : List Addr} (h0 : CellAt K n a c) (h : CellAt K n' a c) (ho : ∀ k, c ≠ .orc k) (pr : n.al <+: n'.al) : CellAt K ⟨n'.Hb, n'.H, n.al, ph⟩ a c := by
  cases c with
  | gone => trivial
  | lst ds => obtain ⟨_, _, _, z⟩ := h0; obtain ⟨h0, vs, h1, h2⟩ := h; exact ⟨h0, vs, h1, Reps.back pr z h2⟩
  | dct kvs => obtain ⟨_, _, _, _, z⟩ := h0; obtain ⟨h0, vs, h1, h2, h3⟩ := h; exact ⟨h0, vs, h1, h2, Reps.back pr z h3⟩
  | dtp kvs => obtain ⟨_, _, _, _, z⟩ := h0; obtain ⟨h0, vs, h1, h2, h3⟩ := h; exact ⟨h0, vs, h1, h2, Reps.back pr z h3⟩
  | exo C l => obtain ⟨_, d0, _, z⟩ := h0; obtain ⟨h0, dxo, h1, h2⟩ := h; exact ⟨h0, dxo, h1, z.back pr h2⟩
  | ins C fs => obtain ⟨_, _, _, _, _, z⟩ := h0; obtain ⟨h0, dx, vs, h1, h2, h3⟩ := h; exact ⟨h0, dx, vs, h1, h2, Reps.back pr z h3⟩
  | orc k => exact absurd rfl (ho k)
  | xdc fs => obtain ⟨_, us0, _, h5, h4⟩ := h0; obtain ⟨h0, us, h1, h2, h3⟩ := h; exact ⟨h0, us, h1, h2, exc_back pr h5 h4 h3⟩
  | exc dd fs => obtain ⟨_, _, us0, _, h5, h4⟩ := h0; obtain ⟨h0, he, us, h1, h2, h3⟩ := h; exact ⟨h0, he, us, h1, h2, exc_back pr h5 h4 h3⟩
theorem get_app2 {α : Type} {l : List α} {x y : α} : (l ++ [x, y])[l.length]? = some x ∧ (l ++ [x, y])[l.length + 1]? = some y := by
  constructor
  · rw [List.getElem?_append_right (Nat.le_refl _)]; simp
  · rw [List.getElem?_append_right (by omega)]; simp
theorem get_app2_lt {α : Type} {l : List α} {x y z : α} {i : Nat} (h : (l ++ [x, y])[i]? = some z) : (i < l.length ∧ l[i]? = some z) ∨ (i = l.length ∧ z = x) ∨ (i = l.length + 1 ∧ z = y) := by
  by_cases hi : i < l.length
  · rw [List.getElem?_append_left hi] at h; exact .inl ⟨hi, h⟩
  · have hl := (List.getElem?_eq_some_iff.mp h).1
    simp at hl
    by_cases h2 : i = l.length
    · subst h2; rw [get_app2.1] at h; cases h; exact .inr (.inl ⟨rfl, rfl⟩)
    · have h3 : i = l.length + 1 := by omega
      subst h3; rw [get_app2.2] at h; cases h; exact .inr (.inr ⟨rfl, rfl⟩)
theorem draw_orc {K : PySem.W.Frag} (vs : List V) (H : Hp) (Q : VK) (E : XK) (h : spOf K S_draw vs H Q E) : spOf K S_drawE vs H Q E := by
  obtain ⟨n, ds, μ, Qd, Ed, hH, sr, rp, ⟨l, c, m, rfl, hl, hm, hm2, q⟩, hq, hx⟩ := h
  subst hH
  have hll : l < n.al.length := by rw [sr.len]; exact (List.getElem?_eq_some_iff.mp hl).1
  obtain ⟨a, ha⟩ : ∃ a, n.al[l]? = some a := ⟨n.al[l], List.getElem?_eq_getElem hll⟩
  obtain ⟨hba, oa⟩ := sr.cell l a _ ha hl
  obtain ⟨a0, xs, y, k, hbb, e2, e3, e4, e5, e6⟩ := oa
  have e6' := e6.resolve_right (fun z => by cases z.1)
  obtain ⟨_, b1, ys, rfl, f2, f3, f4, f5, f6, f7⟩ := e6'
  have p0 := sr.phb a0 (by rw [f2]; simp)
  have p1 := sr.phb b1 (by rw [f2]; simp)
  have na0 : a ≠ a0 := fun z => p0.2.1 (z ▸ List.mem_of_getElem? ha)
  have noc : ∀ (i : Nat) c', μ[i]? = some c' → i ≠ l → ∀ k, c' ≠ .orc k := fun i c' h1 h2 k z => by
    subst z; exact h2 (sr.orc1 i l k _ h1 hl)
  -- the explicit state
  have hpre : n.al <+: n.al ++ [a0, b1] := List.prefix_append _ _
  have lenL : n.al.length = μ.length := sr.len
  let μE : Mu := (μ.set l (.lst [.ref μ.length, .ref (μ.length + 1), .int k])) ++ [.lst (xs.map .int), .lst (ys.map .int)]
  let nE : Now := ⟨n.Hb, n.H, n.al ++ [a0, b1], []⟩
  have gE : ∀ {i : Nat} {z : Addr}, (n.al ++ [a0, b1])[i]? = some z → (i < μ.length ∧ n.al[i]? = some z) ∨ (i = μ.length ∧ z = a0) ∨ (i = μ.length + 1 ∧ z = b1) := fun h => by
    have := get_app2_lt h; rw [lenL] at this; exact this
  have lE : (μ.set l (.lst [.ref μ.length, .ref (μ.length + 1), .int k])).length = μ.length := List.length_set
  have srE : SR0 K nE μE := by
    refine ⟨sr.same, by show (n.al ++ [a0, b1]).length = _; simp [μE, lenL], ?_, fun i z c' h1 h2 => ?_, fun z hz => ?_, fun i j x y h1 h2 => ?_, fun b hb => by cases hb⟩
    · show (n.al ++ [a0, b1]).Nodup
      rw [List.nodup_append]
      refine ⟨sr.nd, by simp [Ne.symm f3], fun z hz u hu e => ?_⟩
      simp at hu
      rcases hu with rfl | rfl
      · exact p0.2.1 (e ▸ hz)
      · exact p1.2.1 (e ▸ hz)
    · rcases gE h1 with ⟨hi, h1⟩ | ⟨rfl, rfl⟩ | ⟨rfl, rfl⟩
      · have h2' : (μ.set l (.lst [.ref μ.length, .ref (μ.length + 1), .int k]))[i]? = some c' := by
          rw [← h2]; exact (List.getElem?_append_left (by rw [lE]; exact hi)).symm
        by_cases e : i = l
        · subst e
          rw [ha] at h1; cases h1
          rw [List.getElem?_set_self hi] at h2'; cases h2'
          refine ⟨hba, _, hbb, .cons (.ref ?_) (.cons (.ref ?_) (.cons (.int _) .nil))⟩
          · show (n.al ++ [a0, b1])[μ.length]? = _
            rw [← lenL]; exact get_app2.1
          · show (n.al ++ [a0, b1])[μ.length + 1]? = _
            rw [← lenL]; exact get_app2.2
        · rw [List.getElem?_set_ne (Ne.symm e)] at h2'
          exact (sr.cell i z c' h1 h2').sub (n' := nE) (noc i c' h2' e) rfl (fun x => x) (Same.refl _) hpre
      · have h2' : μE[μ.length]? = some (.lst (xs.map .int)) := by
          have := (get_app2 (l := μ.set l (.lst [.ref μ.length, .ref (μ.length + 1), .int k])) (x := Cell.lst (xs.map .int)) (y := Cell.lst (ys.map .int))).1
          rwa [lE] at this
        rw [h2'] at h2; cases h2
        exact ⟨p0.1, _, e2, reps_ints xs⟩
      · have h2' : μE[μ.length + 1]? = some (.lst (ys.map .int)) := by
          have := (get_app2 (l := μ.set l (.lst [.ref μ.length, .ref (μ.length + 1), .int k])) (x := Cell.lst (xs.map .int)) (y := Cell.lst (ys.map .int))).2
          rwa [lE] at this
        rw [h2'] at h2; cases h2
        exact ⟨p1.1, _, f5, reps_ints ys⟩
    · rcases List.mem_append.mp hz with hz | hz
      · exact sr.alh z hz
      · simp at hz
        rcases hz with rfl | rfl
        · exact p0.2.2
        · exact p1.2.2
    · exfalso
      rcases get_app2_lt h1 with ⟨hi, h1⟩ | ⟨_, z⟩ | ⟨_, z⟩
      · by_cases e : i = l
        · subst e
          rw [List.getElem?_set_self (by rw [lE] at hi; exact hi)] at h1; cases h1
        · rw [List.getElem?_set_ne (Ne.symm e)] at h1
          exact noc i _ h1 e x rfl
      · cases z
      · cases z
  have stE : StA μE l μ.length (μ.length + 1) k xs ys := by
    have hl' : l < μ.length := (List.getElem?_eq_some_iff.mp hl).1
    refine ⟨?_, ?_, ?_, by omega, by omega, by omega⟩
    · show (_ ++ _)[l]? = _
      rw [List.getElem?_append_left (by rw [lE]; exact hl'), List.getElem?_set_self hl']
    · have := (get_app2 (l := μ.set l (.lst [.ref μ.length, .ref (μ.length + 1), .int k])) (x := Cell.lst (xs.map .int)) (y := Cell.lst (ys.map .int))).1
      rwa [lE] at this
    · have := (get_app2 (l := μ.set l (.lst [.ref μ.length, .ref (μ.length + 1), .int k])) (x := Cell.lst (xs.map .int)) (y := Cell.lst (ys.map .int))).2
      rwa [lE] at this
  have lenE : μE.length = μ.length + 2 := by simp [μE]
  refine ⟨nE, _, μE, fun d μ' => ∃ i l0' xs', d = .int i ∧ 0 ≤ i ∧ i < m ∧ StA μ' l l0' (μ.length + 1) (k + 1) xs' ys ∧ xs'.length ≤ xs.length ∧ (∀ x ∈ xs', 0 ≤ x) ∧ FrA μE l μ.length μ' l0', fun _ _ => False, rfl, srE, rp.mono (Same.refl _) hpre,
    ⟨l, μ.length, μ.length + 1, k, xs, ys, m, rfl, stE, hm, hm2, e4, by have : k + ((c + 1 : Nat) : Int) ≤ 1099511627776 := e5; omega, f4, f6, fun d μ' l0' xs' a1 a2 a3 a4 a5 a6 => ⟨d, l0', xs', rfl, a1, a2, a3, a4, a5, a6⟩⟩, ?_, ?_⟩
  · rintro n' v d μ' s' r' rv ⟨i, l0', xs', rfl, i0, i1, st, hle, hnn, ⟨g1, g2, ⟨zs, g3⟩, g4⟩⟩
    cases rv
    have hal : n.al <+: n'.al := hpre.trans s'.pre
    have l'len : n'.al.length = μ'.length := r'.len
    obtain ⟨_, us, u1, u2⟩ := r'.cell l a _ (pre_get hal ha) st.c
    obtain ⟨a0', a1', rfl, w0, w1⟩ := reps_ref u2
    have w1' : a1' = b1 := by
      have : n'.al[μ.length + 1]? = some b1 := pre_get s'.pre (by show (n.al ++ [a0, b1])[μ.length + 1]? = _; rw [← lenL]; exact get_app2.2)
      rw [w1] at this; cases this; rfl
    subst w1'
    obtain ⟨hb0, us0, v0, v1⟩ := r'.cell l0' a0' _ w0 st.c0
    obtain ⟨hb1, us1, v2, v3⟩ := r'.cell (μ.length + 1) a1' _ w1 st.c1
    have hbo : n'.Hb a0 = none := by
      obtain ⟨z, _⟩ := r'.cell μ.length a0 _ (pre_get s'.pre (by show (n.al ++ [a0, a1'])[μ.length]? = _; rw [← lenL]; exact get_app2.1)) g3
      exact z
    have nin : ∀ (j : Nat) (z : Addr), μ.length ≤ j → n'.al[j]? = some z → z ∉ n.al := fun j z hj e hz => by
      obtain ⟨i', hi', ei⟩ := List.getElem_of_mem hz
      have e1 : n.al[i']? = some z := by rw [List.getElem?_eq_getElem hi', ei]
      have := nodup_get r'.nd (pre_get hal e1) e
      omega
    have hl0 : μ.length ≤ l0' := by rcases g4 with z | z <;> omega
    have new0 : a0' ∈ n.ph ∨ n.H a0' = none := by
      rcases g4 with z | z
      · subst z
        have : n'.al[μ.length]? = some a0 := pre_get s'.pre (by show (n.al ++ [a0, a1'])[μ.length]? = _; rw [← lenL]; exact get_app2.1)
        rw [w0] at this; cases this
        exact .inl (by rw [f2]; simp)
      · rcases s'.newa a0' (List.mem_of_getElem? w0) with y | y
        · exfalso
          obtain ⟨i', hi', ei⟩ := List.getElem_of_mem y
          have hi2 : i' < (n.al ++ [a0, a1']).length := hi'
          have e1 : n'.al[i']? = some a0' := pre_get s'.pre (by rw [List.getElem?_eq_getElem hi', ei])
          have := nodup_get r'.nd e1 w0
          simp at hi2
          omega
        · exact .inr y
    have stp : Step n ⟨n'.Hb, n'.H, n.al, [a0', a1']⟩ := by
      refine ⟨s'.same, List.prefix_refl _, fun b o e => ?_, fun b h => .inl h, fun b hb => ?_, fun b o e h0 h1 h2 => s'.keep b o e h0 (fun z => ?_) (fun z => by cases z), s'.dom, s'.fixd⟩
      · rcases s'.newb b o e with z | z | z | ⟨vs, rfl, z | z⟩
        · exact .inl z
        · exact .inr (.inl z)
        rotate_left
        · exact .inr (.inr (.inr ⟨vs, rfl, .inl z⟩))
        · cases z
        · rcases List.mem_append.mp z with z | z
          · exact .inr (.inr (.inl z))
          · simp at z
            rcases z with rfl | rfl
            · rw [hbo] at e; cases e
            · rw [hb1] at e; cases e
      · simp at hb
        rcases hb with rfl | rfl
        · exact new0
        · exact .inl (by rw [f2]; simp)
      · rcases List.mem_append.mp z with z | z
        · exact h1 z
        · rw [f2] at h2; exact h2 z
    refine hq ⟨n'.Hb, n'.H, n.al, [a0', a1']⟩ _ (.int i) (μ.set l (.orc (c, true))) stp ?_ (.int i) (q i i0 i1)
    refine ⟨r'.same, by rw [List.length_set]; exact lenL, sr.nd, fun j z c' h1 h2 => ?_, fun z hz => r'.alh z (hal.subset hz), fun i' j x y h1 h2 => ?_, fun b hb => ?_⟩
    · have h1 : n.al[j]? = some z := h1
      by_cases e : j = l
      · subst e
        rw [ha] at h1; cases h1
        rw [List.getElem?_set_self (by rw [← lenL]; exact hll)] at h2; cases h2
        refine ⟨?_, a0', xs', _, k + 1, u1, ?_, by omega, by omega, by show k + 1 + (c : Int) ≤ _; have : k + ((c + 1 : Nat) : Int) ≤ 1099511627776 := e5; omega, .inl ⟨rfl, a1', ys, rfl, rfl, fun z => ?_, hnn, ?_, f6, f7⟩⟩
        · obtain ⟨z, _⟩ := r'.cell j _ _ (pre_get hal ha) st.c; exact z
        · have := Reps.ints xs' v1; subst this; exact v0
        · subst z; exact st.n01 (nodup_get r'.nd w0 w1)
        · have := Reps.ints ys v3; subst this; exact v2
      · rw [List.getElem?_set_ne (Ne.symm e)] at h2
        have hj : j < μ.length := (List.getElem?_eq_some_iff.mp h2).1
        have h2' : μ'[j]? = some c' := by
          rw [g2 j (by omega) e (by omega)]
          show (_ ++ _)[j]? = _
          rw [List.getElem?_append_left (by rw [lE]; exact hj), List.getElem?_set_ne (Ne.symm e)]; exact h2
        exact (sr.cell j z c' h1 h2).back (r'.cell j z c' (pre_get hal h1) h2') (noc j c' h2 e) hal
    · have qq : ∀ (i : Nat) x, (μ.set l (.orc (c, true)))[i]? = some (.orc x) → i = l := fun i x e => by
        by_cases e' : i = l
        · exact e'
        · rw [List.getElem?_set_ne (Ne.symm e')] at e
          exact absurd rfl (noc i _ e e' x)
      rw [qq i' x h1, qq j y h2]
    · simp at hb
      rcases hb with rfl | rfl
      · exact ⟨hb0, nin l0' _ hl0 w0, by show n'.H _ ≠ none; rw [v0]; simp⟩
      · exact ⟨hb1, nin _ _ (by omega) w1, by show n'.H _ ≠ none; rw [v2]; simp⟩
  · exact fun n' cls dd x μ' s' r' ex q' => q'.elim
end DV
namespace DV
open PySem PySem.Spec PyProof.Rows L2
def t_start : DTS := dRet (dCall gLstM (dCons (dComp false [1] (dIter (dVar 0)) (cName 1) (dTest (dBin (gI fun i j => .bl (decide (j ≤ i))) (dCall gAbs (dCons (dVar 1) dNil)) (dBin gPow (dC (.int 10)) (dC (.int 18))))) (dCall gAbs (dCons (dVar 1) dNil))) (dCons (dBin gAddM (dCall (gList true) (dCons (dVar 0) dNil)) (dCall gLst (dCons (dC (.int 5)) dNil))) (dCons (dC (.int 0)) dNil))))
def S_startE : DSp := fun ds μ Q _ => ∃ ns : List Int, ds = [.scr ns] ∧ ns.length ≤ 63 ∧ ∀ xs ys : List Int, xs.length ≤ 100 → (∀ x ∈ xs, 0 ≤ x) → ys ≠ [] → ys.length ≤ 100 →
  Q (.ref (μ.length + 2)) (μ ++ [.lst (xs.map .int), .lst (ys.map .int), .lst [.ref μ.length, .ref (μ.length + 1), .int 0]])
theorem compStart {Γ : Gam} {μ : Mu} {Q : List D → Mu → Prop} : ∀ (ns : List Int) (acc : List Int), acc.length + ns.length ≤ 100 → (∀ x ∈ acc, 0 ≤ x) → (∀ xs : List Int, xs.length ≤ 100 → (∀ x ∈ xs, 0 ≤ x) → Q (xs.map .int) μ) → 1 < Γ.length →
    dCompL none (cName 1) (dTest (dBin (gI fun i j => .bl (decide (j ≤ i))) (dCall gAbs (dCons (dVar 1) dNil)) (dBin gPow (dC (.int 10)) (dC (.int 18))))) (dCall gAbs (dCons (dVar 1) dNil)) Γ (ns.map .int) (acc.map .int) μ Q
  | [], acc, h1, h2, q, hg => ⟨trivial, q acc (by simpa using h1) h2⟩
  | n :: ns, acc, h1, h2, q, hg => by
    rw [List.length_cons] at h1
    have g1 : (Γ.set 1 (some (D.int n)))[1]? = some (some (.int n)) := List.getElem?_set_self hg
    refine ⟨trivial, ?_⟩
    simp only [cName, dTest, dBin, dCall, dCons, dNil, dVar, g1, gAbs, dC, gPow, gI]
    refine ⟨by decide, ?_⟩
    cases decide ((10 : Int) ^ (18 : Int).toNat ≤ if n < 0 then -n else n) with
    | false => exact compStart ns acc (by omega) h2 q hg
    | true =>
      refine ⟨by rw [List.length_map, sizeLine_eq]; omega, ?_⟩
      have e : acc.map D.int ++ [D.int (if n < 0 then -n else n)] = (acc ++ [if n < 0 then -n else n]).map D.int := by simp
      rw [e]
      refine compStart ns _ (by simp; omega) (fun x hx => ?_) q hg
      rcases List.mem_append.mp hx with hx | hx
      · exact h2 x hx
      · rw [List.mem_singleton.mp hx]; split <;> omega
theorem rd_startE : ∀ ds μ Q E, S_startE ds μ Q E → t_start (dFn μ Q E) (start0 ["_law_script", "_law_cell"] ds) μ := by
  rintro _ μ Q E ⟨ns, rfl, hn, q⟩
  simp only [t_start, dRet, dCall, dCons, dComp, dIter, dVar, start0, List.map_cons, List.map_nil, List.length_cons, List.length_nil, List.replicate, List.cons_append, List.nil_append, List.getElem?_cons_zero]
  refine compStart ns [] (by simp; omega) (by simp) (fun xs hx hx0 => ?_) (by simp [wipeG])
  simp only [dFin, dBin, dCall, gList, dCons, dNil, dVar, List.getElem?_cons_zero, lk, dC, gLst, gAddM, gLstM, dFin]
  refine ⟨by decide, ?_, ?_, ?_⟩
  · rw [List.length_map, sizeLine_eq]; simp; omega
  · show 3 ≤ sizeLine
    rw [sizeLine_eq]; decide
  · refine FnEnd.here ?_
    have := q xs (ns ++ [5]) hx hx0 (by simp) (by simp; omega)
    simpa using this
/-- the law's state: an oracle of 2 ^ 40 draws -/
def S_start : DSp := fun ds μ Q _ => ∃ ns : List Int, ds = [.scr ns] ∧ ns.length ≤ 63 ∧ (∀ (i : Nat) k, μ[i]? ≠ some (.orc k)) ∧ Q (.ref μ.length) (μ ++ [.orc (1099511627776, true)])
theorem start_orc {K : PySem.W.Frag} (vs : List V) (H : Hp) (Q : VK) (E : XK) (h : spOf K S_start vs H Q E) : spOf K S_startE vs H Q E := by
  obtain ⟨n, ds, μ, Qd, Ed, hH, sr, rp, ⟨ns, rfl, hn, hno, q⟩, hq, hx⟩ := h
  subst hH
  refine ⟨n, _, μ, fun d μ' => ∃ xs ys : List Int, d = .ref (μ.length + 2) ∧ μ' = μ ++ [.lst (xs.map .int), .lst (ys.map .int), .lst [.ref μ.length, .ref (μ.length + 1), .int 0]] ∧ xs.length ≤ 100 ∧ (∀ x ∈ xs, 0 ≤ x) ∧ ys ≠ [] ∧ ys.length ≤ 100, fun _ _ => False, rfl, sr, rp,
    ⟨ns, rfl, hn, fun xs ys a1 a2 a3 a4 => ⟨xs, ys, rfl, rfl, a1, a2, a3, a4⟩⟩, ?_, fun _ _ _ _ _ _ _ _ z => z.elim⟩
  rintro n' v d μ' s' r' rv ⟨xs, ys, rfl, rfl, hx1, hx2, hy1, hy2⟩
  have g : ∀ j c, [Cell.lst (xs.map D.int), Cell.lst (ys.map D.int), Cell.lst [D.ref μ.length, D.ref (μ.length + 1), D.int 0]][j]? = some c → (μ ++ [Cell.lst (xs.map D.int), Cell.lst (ys.map D.int), Cell.lst [D.ref μ.length, D.ref (μ.length + 1), D.int 0]])[μ.length + j]? = some c := fun j c h => by
    rw [List.getElem?_append_right (by omega)]; simpa using h
  cases rv with
  | @ref _ a ha =>
    obtain ⟨hb, us, u1, u2⟩ := r'.cell _ a _ ha (g 2 _ rfl)
    obtain ⟨a0, a1, rfl, w0, w1⟩ := reps_ref u2
    obtain ⟨hb0, us0, v0, v1⟩ := r'.cell _ a0 _ w0 (g 0 _ rfl)
    obtain ⟨hb1, us1, v2, v3⟩ := r'.cell _ a1 _ w1 (g 1 _ rfl)
    have e0 := Reps.ints xs v1
    have e1 := Reps.ints ys v3
    subst e0; subst e1
    have lenL := sr.len
    have nin : ∀ (j : Nat) (z : Addr), μ.length ≤ j → n'.al[j]? = some z → z ∉ n.al := fun j z hj e hz => by
      obtain ⟨i', hi', ei⟩ := List.getElem_of_mem hz
      have e1 : n.al[i']? = some z := by rw [List.getElem?_eq_getElem hi', ei]
      have := nodup_get r'.nd (pre_get s'.pre e1) e
      omega
    have new : ∀ (j : Nat) (z : Addr), μ.length ≤ j → n'.al[j]? = some z → n.H z = none := fun j z hj e => by
      rcases s'.newa z (List.mem_of_getElem? e) with y | y
      · exact absurd y (nin j z hj e)
      · exact y
    have hna : a ∉ n.al := nin _ a (by omega) ha
    have gget : ∀ {i : Nat} {z : Addr}, (n.al ++ [a])[i]? = some z → (i < μ.length ∧ n.al[i]? = some z) ∨ (i = μ.length ∧ z = a) := fun {i z} h => by
      by_cases hi : i < n.al.length
      · rw [List.getElem?_append_left hi] at h; exact .inl ⟨by omega, h⟩
      · rw [List.getElem?_append_right (by omega)] at h
        have hz := (List.getElem?_eq_some_iff.mp h).1
        simp at hz
        have : i = n.al.length := by omega
        subst this
        simp at h
        exact .inr ⟨lenL, h.symm⟩
    refine hq ⟨n'.Hb, n'.H, n.al ++ [a], [a0, a1]⟩ _ (.ref μ.length) (μ ++ [.orc (1099511627776, true)]) ⟨s'.same, List.prefix_append _ _, s'.newb, fun b hb => ?_, fun b hb => ?_, fun b o e h0 h1 h2 => s'.keep b o e h0 h1 h2, s'.dom, s'.fixd⟩ ?_ (.ref ?_) q
    · rcases List.mem_append.mp hb with z | z
      · exact .inl z
      · rw [List.mem_singleton.mp z]; exact .inr (new _ a (by omega) ha)
    · simp at hb
      rcases hb with rfl | rfl
      · exact .inr (new _ _ (Nat.le_refl _) w0)
      · exact .inr (new _ _ (by omega) w1)
    · refine ⟨r'.same, by simp [lenL], ?_, fun i z c h1 h2 => ?_, fun z hz => ?_, fun i j x y h1 h2 => ?_, fun b hb => ?_⟩
      · show (n.al ++ [a]).Nodup
        rw [List.nodup_append]
        exact ⟨sr.nd, by simp, fun b hb c hc z => by rw [List.mem_singleton.mp hc] at z; exact hna (z ▸ hb)⟩
      · rcases gget h1 with ⟨hi, h1⟩ | ⟨rfl, rfl⟩
        · have h2' : μ[i]? = some c := by rw [← h2, List.getElem?_append_left hi]
          have h2'' : (μ ++ [Cell.lst (xs.map D.int), Cell.lst (ys.map D.int), Cell.lst [D.ref μ.length, D.ref (μ.length + 1), D.int 0]])[i]? = some c := by rw [List.getElem?_append_left hi]; exact h2'
          have nc : ∀ k, c ≠ .orc k := fun k z => hno i k (z ▸ h2')
          exact ((sr.cell i z c h1 h2').back (ph := [a0, a1]) (r'.cell i z c (pre_get s'.pre h1) h2'') nc s'.pre).sub (n' := ⟨n'.Hb, n'.H, n.al ++ [a], [a0, a1]⟩) nc rfl (fun x => x) (Same.refl _) (List.prefix_append _ _)
        · rw [List.getElem?_append_right (Nat.le_refl _)] at h2
          simp at h2
          subst h2
          exact ⟨hb, a0, xs, _, 0, u1, v0, hx1, by decide, by show (0 : Int) + _ ≤ _; decide, .inl ⟨rfl, a1, ys, rfl, rfl, fun z => by subst z; have := nodup_get r'.nd w0 w1; omega, hx2, v2, hy1, hy2⟩⟩
      · rcases List.mem_append.mp hz with y | y
        · exact r'.alh z (s'.pre.subset y)
        · rw [List.mem_singleton.mp y]; exact r'.alh a (List.mem_of_getElem? ha)
      · have qq : ∀ (i : Nat) x, (μ ++ [Cell.orc (1099511627776, true)])[i]? = some (.orc x) → i = μ.length := fun i x e => by
          by_cases hi : i < μ.length
          · rw [List.getElem?_append_left hi] at e; exact absurd e (hno i x)
          · have := (List.getElem?_eq_some_iff.mp e).1
            simp at this; omega
        rw [qq i x h1, qq j y h2]
      · simp at hb
        have nz : ∀ z (j : Nat), n'.al[j]? = some z → μ.length ≤ j → j ≠ μ.length + 2 → z ∉ n.al ++ [a] := fun z j e hj hne hz => by
          rcases List.mem_append.mp hz with y | y
          · exact nin j z hj e y
          · rw [List.mem_singleton.mp y] at e
            exact hne (nodup_get r'.nd e ha)
        rcases hb with rfl | rfl
        · exact ⟨hb0, nz _ _ w0 (Nat.le_refl _) (by omega), by show n'.H _ ≠ none; rw [v0]; simp⟩
        · exact ⟨hb1, nz _ _ w1 (by omega) (by omega), by show n'.H _ ≠ none; rw [v2]; simp⟩
    · show (n.al ++ [a])[μ.length]? = _
      rw [← lenL]; simp
end DV
namespace DV
open PySem PySem.Spec PyProof.Rows L2
/-! ### texts -/
def asc (z : Str) : Prop := ∀ c ∈ z.cps.toList, c < 128
theorem cps_app (a b : Str) : (a ++ b).cps.toList = a.cps.toList ++ b.cps.toList := by
  show (a.cps ++ b.cps).toList = _
  rw [Array.toList_append]
theorem asc_ok {z : Str} (h : asc z) : PyData.strOk z = true := by
  unfold PyData.strOk
  rw [Array.all_eq_true]
  intro i hi
  have := h z.cps[i] (by simp)
  simp only [decide_eq_true_eq]
  omega
theorem join0 : ∀ ts : List Str, (Str.join "" ts).cps.toList = (ts.map fun t => t.cps.toList).flatten
  | [] => rfl
  | [x] => by simp [Str.join]
  | x :: y :: r => by
    have ih := join0 (y :: r)
    show (x ++ ("" : Str) ++ Str.join "" (y :: r)).cps.toList = _
    rw [cps_app, cps_app, ih]
    have : (("" : Str)).cps.toList = [] := rfl
    rw [this]; simp
theorem asc_join {ts : List Str} (h : ∀ t ∈ ts, asc t) : asc (Txt.join "" ts) := fun c hc => by
  rw [TL.join_eq, join0] at hc
  obtain ⟨l, hl, hc⟩ := List.mem_flatten.mp hc
  obtain ⟨t, ht, rfl⟩ := List.mem_map.mp hl
  exact h t ht c hc
/-! ### a comprehension that draws nothing -/
/-! ### the law's own helpers -/
end DV
namespace DV
open PySem PySem.Spec PyProof.Rows L2
/-! ### the end of a law -/
end DV
namespace DV
open PySem PySem.Spec PyProof.Rows L2
/-! ### helpers of the laws: texts -/
end DV
namespace DV
open PySem PySem.Spec PyProof.Rows L2
/-! ### instances of own classes -/
def putD (f : Str) (v : D) : List (Str × D) → List (Str × D)
  | [] => [(f, v)]
  | (g, x) :: r => if g = f then (g, v) :: r else (g, x) :: putD f v r
def dFld (C : Addr) (f : Str) (fo : DTE) : DTE := fun Γ μ Q E => fo Γ μ (fun d μ1 => match lk μ1 d with
  | .ins C' fs => C' = C ∧ (match fs.lookup f with | some v => Q v μ1 | none => False)
  | _ => False) E
def dSetF (C : Addr) (f : Str) (fo fv : DTE) : DTS := fun D Γ μ => fv Γ μ (fun v μ1 => fo Γ μ1 (fun o μ2 => match o with
  | .ref l => (match μ2[l]? with
    | some (.ins C' fs) => C' = C ∧ fs.length < 1000 ∧ D.nx Γ (μ2.set l (.ins C (putD f v fs)))
    | _ => False)
  | _ => False) (fun x μ1 => D.ex x Γ μ1)) (fun x μ1 => D.ex x Γ μ1)
section
variable {X : Cx} {W : WX} {o e value : Expr} {es : List Expr} {f m x : Str} {p pos pos' apos : Pos} {fo fv fi : DTE} {fr : DTA} {C g pr : Addr} {k : Nat} {fd : FuncData} {ps : List Str} {S : DSp}
/-! ### C(..): a new object, fixed behind its __init__ -/
def dMake (C : Addr) (S : DSp) (fr : DTA) : DTE := fun Γ μ Q E => fr Γ μ (fun vs μ1 => S (.ref μ1.length :: vs) (μ1 ++ [.ins C []])
  (fun r μ2 => r = .non ∧ ∃ fs μ3, μ2 = μ3 ++ [.ins C fs] ∧ Upd μ1 μ3 ∧ D.puF fs = true ∧ Q (.ins C fs) μ3)
  (fun x μ2 => ∃ c μ3, μ2 = μ3 ++ [c] ∧ Upd μ1 μ3 ∧ D.puF x.fs = true ∧ E x μ3)) E
/-! ### methods, properties, o[i] -/
def isIns (μ : Mu) (C : Addr) (m : Str) (d : D) : Prop := match lk μ d with
  | .ins C' fs => C' = C ∧ fs.lookup m = none
  | _ => False
def dMethod (C : Addr) (m : Str) (S : DSp) (fo : DTE) (fr : DTA) : DTE := fun Γ μ Q E => fo Γ μ (fun d μ1 => isIns μ1 C m d ∧ fr Γ μ1 (fun vs μ2 => S (d :: vs) μ2 Q E) E) E
def insOf (μ : Mu) (C : Addr) (d : D) : Prop := match lk μ d with
  | .ins C' _ => C' = C
  | _ => False
/-- a property that lets nothing out -/
def dProp (C : Addr) (S : DSp) (fo : DTE) : DTE := fun Γ μ Q E => fo Γ μ (fun d μ1 => insOf μ1 C d ∧ S [d] μ1 Q fun _ _ => False) E
/-- o[i] by an own __getitem__ -/
def dOwnIx (C : Addr) (S : DSp) (fo fi : DTE) : DTE := fun Γ μ Q E => fo Γ μ (fun d μ1 => fi Γ μ1 (fun i μ2 => insOf μ2 C d ∧ S [d, i] μ2 Q E) E) E
/-- a way that is never taken -/
def dNever : DTS := fun _ _ _ => False
end
end DV
namespace DV
open PySem PySem.Spec PyProof.Rows L2
/-! ### sorted: data by their own order, or by a key -/
def pyd (d : D) : PyData := D.py 12 d
def srtOk (ks : List D) : Prop := (∀ d ∈ ks, D.okn 12 d = true) ∧ PySem.W.AllAlike (ks.map pyd) ∧ PySem.W.Sortable (ks.map pyd)
def leBy (key : D → D) : D → D → Bool := PySem.W.dataLe false fun d => pyd (key d)
def sortBy (key : D → D) (ds : List D) : List D := ds.mergeSort (leBy key)
/-- sorted(x) -/
def gSorted (fz : Bool) : GN := fun ds μ Q => match ds with
  | [d] => (match lk μ d with
    | .lst xs => srtOk xs ∧ dFin fz (sortBy id xs) μ Q
    | _ => False)
  | _ => False
end DV
namespace DV
open PySem PySem.Spec PyProof.Rows L2
def dSortK (fz : Bool) (S : DSp) (key : D → D) (fe : DTE) : DTE := fun Γ μ Q E => fe Γ μ (fun d μ1 => match lk μ1 d with
  | .lst xs => (∀ d ∈ xs, S [d] μ1 (fun x μ' => x = key d ∧ μ' = μ1) (fun _ _ => False)) ∧ srtOk (xs.map key) ∧ dFin fz (sortBy key xs) μ1 Q
  | _ => False) E
end DV
namespace DV
open PySem PySem.Spec PyProof.Rows L2
/-! ### t[::-1] of a tuple -/
def dRevT (f : DTE) : DTE := fun Γ μ Q E => f Γ μ (fun d μ1 => match lk μ1 d with
  | .tup xs => Q (.tup xs.reverse) μ1
  | _ => False) E
section
variable {X : Cx} {W : WX} {a b e o : Expr} {k : Nat} {q1 q2 q3 pos p apos : Pos} {fa fb : DTE}
/-! ### in, deep -/
def inD (x : D) (ys : List D) : Bool := ys.any fun y => PyData.eqv (D.py 11 y) (D.py 12 x)
def gInD (neg : Bool) : G2 := fun x y μ Q => match lk μ y with
  | .lst ys => (D.okn 12 (lk μ x) = true ∧ ys.all (D.okn 11) = true) ∧ Q (.bl (if neg then !inD (lk μ x) ys else inD (lk μ x) ys)) μ
  | .tup ys => (D.okn 12 (lk μ x) = true ∧ ys.all (D.okn 11) = true) ∧ Q (.bl (if neg then !inD (lk μ x) ys else inD (lk μ x) ys)) μ
  | _ => False
/-! ### is True -/
def gIsB (neg : Bool) : G2 := fun x y μ Q => match x, y with
  | .bl a, .bl b => Q (.bl (if neg then !decide (a = b) else decide (a = b))) μ
  | _, _ => False
/-! ### str(i) -/
def gStr : GN := fun ds μ Q => match ds with
  | [.int i] => i.natAbs.log2 < 1920 ∧ Q (.str (toString i)) μ
  | _ => False
/-! ### l.pop() -/
def dPop0 (fo : DTE) : DTE := fun Γ μ Q E => fo Γ μ (fun x μ1 => match x with
  | .ref l => (match μ1[l]? with
    | some (.lst xs) => (match xs[xs.length - 1]? with | some y => Q y (μ1.set l (.lst xs.dropLast)) | none => False)
    | _ => False)
  | _ => False) E
end
/-! ### dict displays -/
def keyOfD : D → Option Key
  | .int i => some (.inl i)
  | .str x => some (.inr x)
  | _ => none
def keysD : List (D × D) → Option (List (Key × D))
  | [] => some []
  | (k, v) :: r => match keyOfD k, keysD r with
    | some k, some r => some ((k, v) :: r)
    | _, _ => none
def putKD (kvs : List (Key × D)) (k : Key) (v : D) : List (Key × D) :=
  if (kvs.any fun kv => decide (kv.1 = k)) = true then kvs.map (fun kv => if kv.1 = k then (kv.1, v) else kv) else kvs ++ [(k, v)]
def mergeKD (kvs more : List (Key × D)) : List (Key × D) := more.foldl (fun acc kv => putKD acc kv.1 kv.2) kvs
def dFinD (fz : Bool) (acc : List (Key × D)) (μ : Mu) (Q : D → Mu → Prop) : Prop := match fz with
  | true => Q (.dct acc) μ
  | false => Q (.ref μ.length) (μ ++ [.dct acc])
def dPairs : List (DTE × DTE) → Gam → Mu → (List (D × D) → Mu → Prop) → (Exn → Mu → Prop) → Prop
  | [], _, μ, Q, _ => Q [] μ
  | (fk, fv) :: r, Γ, μ, Q, E => fk Γ μ (fun x μ1 => fv Γ μ1 (fun y μ2 => dPairs r Γ μ2 (fun ps μ3 => Q ((x, y) :: ps) μ3) E) E) E
def dDict (fz : Bool) (trs : List (DTE × DTE)) : DTE := fun Γ μ Q E => dPairs trs Γ μ (fun ps μ1 => match keysD ps with
  | some kvs => kvs.length ≤ 15 ∧ dFinD fz (mergeKD [] kvs) μ1 Q
  | none => False) E
/-- a dict of the layer and one of the deep layer -/
def RepK (K : PySem.W.Frag) (Hb : Hp) (al : List Addr) (us : List (Key × V)) (kvs : List (Key × D)) : Prop := kvs.map (·.1) = us.map (·.1) ∧ Reps K Hb al (us.map (·.2)) (kvs.map (·.2))
section
variable {K : PySem.W.Frag} {Hb : Hp} {al : List Addr}
theorem RepK.nil : RepK K Hb al [] [] := ⟨rfl, .nil⟩
theorem RepK.snoc {us : List (Key × V)} {kvs : List (Key × D)} {k : Key} {v : V} {d : D} (h : RepK K Hb al us kvs) (r : Rep K Hb al v d) : RepK K Hb al (us ++ [(k, v)]) (kvs ++ [(k, d)]) :=
  ⟨by simp [h.1], by simpa using h.2.append (.cons r .nil)⟩
theorem RepK.put : ∀ {us : List (Key × V)} {kvs : List (Key × D)} {k : Key} {v : V} {d : D}, RepK K Hb al us kvs → Rep K Hb al v d → RepK K Hb al (putK us k v) (putKD kvs k d) := fun {us kvs k v d} h r => by
  have e : (us.any fun kv => decide (kv.1 = k)) = (kvs.any fun kv => decide (kv.1 = k)) := by
    have e1 : (us.any fun kv => decide (kv.1 = k)) = ((us.map (·.1)).any fun q => decide (q = k)) := by rw [List.any_map]; rfl
    have e2 : (kvs.any fun kv => decide (kv.1 = k)) = ((kvs.map (·.1)).any fun q => decide (q = k)) := by rw [List.any_map]; rfl
    rw [e1, e2, h.1]
  unfold putK putKD
  rw [e]
  split
  · have aux : ∀ {us : List (Key × V)} {kvs : List (Key × D)}, kvs.map (·.1) = us.map (·.1) → Reps K Hb al (us.map (·.2)) (kvs.map (·.2)) → RepK K Hb al (us.map (fun kv => if kv.1 = k then (kv.1, v) else kv)) (kvs.map (fun kv => if kv.1 = k then (kv.1, d) else kv)) := fun {us} => by
      induction us with
      | nil => intro kvs e1 e2; cases kvs with
        | nil => exact RepK.nil
        | cons _ _ => simp at e1
      | cons a us ih =>
        intro kvs e1 e2
        cases kvs with
        | nil => simp at e1
        | cons b kvs =>
          simp only [List.map_cons, List.cons.injEq] at e1
          simp only [List.map_cons] at e2
          cases e2 with
          | cons x1 x2 =>
            obtain ⟨y1, y2⟩ := ih e1.2 x2
            refine ⟨?_, ?_⟩
            · simp only [List.map_cons]
              rw [y1]
              congr 1
              rw [← e1.1]
              split <;> simp [e1.1]
            · simp only [List.map_cons]
              refine .cons ?_ y2
              rw [← e1.1]
              split
              · exact r
              · exact x1
    exact aux h.1 h.2
  · exact h.snoc r
theorem RepK.merge : ∀ {ms : List (Key × V)} {mds : List (Key × D)} {us : List (Key × V)} {kvs : List (Key × D)}, RepK K Hb al ms mds → RepK K Hb al us kvs → RepK K Hb al (mergeK us ms) (mergeKD kvs mds) := fun {ms} => by
  induction ms with
  | nil =>
    intro mds us kvs h1 h2
    cases mds with
    | nil => exact h2
    | cons _ _ => simp [RepK] at h1
  | cons a ms ih =>
    intro mds us kvs h1 h2
    cases mds with
    | nil => simp [RepK] at h1
    | cons b mds =>
      obtain ⟨e1, e2⟩ := h1
      simp only [List.map_cons, List.cons.injEq] at e1
      simp only [List.map_cons] at e2
      cases e2 with
      | cons x1 x2 =>
        have := ih (us := putK us a.1 a.2) (kvs := putKD kvs b.1 b.2) ⟨e1.2, x2⟩ (by rw [e1.1]; exact h2.put x1)
        exact this
theorem keysD_of : ∀ {ps : List (D × D)} {kvs : List (Key × D)} {qs : List (V × V)}, keysD ps = some kvs → Reps K Hb al (qs.map (·.1)) (ps.map (·.1)) → Reps K Hb al (qs.map (·.2)) (ps.map (·.2)) → ∃ us : List (Key × V), qs = us.map (fun kv => (kV kv.1, kv.2)) ∧ RepK K Hb al us kvs
  | [], kvs, qs, h, r1, r2 => by
    cases qs with
    | nil => cases h; exact ⟨[], rfl, RepK.nil⟩
    | cons _ _ => cases r1
  | (k, v) :: ps, kvs, qs, h, r1, r2 => by
    cases qs with
    | nil => cases r1
    | cons q qs =>
      simp only [List.map_cons] at r1 r2
      cases r1 with
      | cons a1 a2 =>
        cases r2 with
        | cons b1 b2 =>
          simp only [keysD] at h
          split at h
          · rename_i k' r' ek er
            cases h
            obtain ⟨us, e, hr⟩ := keysD_of er a2 b2
            obtain ⟨q1, q2⟩ := q
            have hk : q1 = kV k' := by
              cases k <;> simp [keyOfD] at ek
              · subst ek
                have a1' : Rep K Hb al q1 (.int _) := a1
                cases a1'; rfl
              · subst ek
                have a1' : Rep K Hb al q1 (.str _) := a1
                cases a1'; rfl
            refine ⟨(k', q2) :: us, ?_, ?_, ?_⟩
            · simp only [List.map_cons, ← e, hk]
            · simp only [List.map_cons, hr.1]
            · simp only [List.map_cons]
              exact .cons b1 hr.2
          · cases h
end
inductive DPs (X : Cx) (W : WX) : List (Option Expr) → List Expr → List (DTE × DTE) → Prop
  | nil : DPs X W [] [] []
  | cons {k v : Expr} {ks : List (Option Expr)} {vs : List Expr} {fk fv : DTE} {trs : List (DTE × DTE)} : DE X W k fk → DE X W v fv → DPs X W ks vs trs → DPs X W (some k :: ks) (v :: vs) ((fk, fv) :: trs)
section
variable {X : Cx} {W : WX} {pos : Pos}
theorem DPs.pps {ks : List (Option Expr)} {vs : List Expr} {trs : List (DTE × DTE)} (h : DPs X W ks vs trs) : PPs X pos ks vs (trs.map fun z => (lift X.K W z.1, lift X.K W z.2)) := by
  induction h with
  | nil => exact pps_nil
  | cons h1 h2 _ ih => exact pps_cons h1 h2 ih
theorem pairs_go {K : PySem.W.Frag} {Γ : Gam} {σ : L2.St} {Ed : Exn → Mu → Prop} : ∀ (trs : List (DTE × DTE)) {n : Now} {μ : Mu} {Qd : List (D × D) → Mu → Prop} {Q : List (V × V) → Hp → Prop}, SR0 K n μ → GR K n Γ σ → dPairs trs Γ μ Qd Ed →
    (∀ n' qs ps μ', Step n n' → SR0 K n' μ' → Reps K n'.Hb n'.al (qs.map (·.1)) (ps.map (·.1)) → Reps K n'.Hb n'.al (qs.map (·.2)) (ps.map (·.2)) → Qd ps μ' → Q qs n'.H) → XLink K W n Γ σ Ed → tPairs (trs.map fun z => (lift K W z.1, lift K W z.2)) σ n.H Q
  | [], n, μ, Qd, Q, sr, gr, h, hq, hx => hq n [] [] μ (Step.refl n) sr .nil .nil h
  | (fk, fv) :: trs, n, μ, Qd, Q, sr, gr, h, hq, hx => by
    refine lift_go sr gr h (fun n1 x dx μ1 s1 r1 p1 q1 => lift_go r1 (gr.step s1) q1 (fun n2 y dy μ2 s2 r2 p2 q2 => ?_) (hx.step s1)) hx
    refine pairs_go trs r2 ((gr.step s1).step s2) q2 (fun n3 qs ps μ3 s3 r3 a b q3 => ?_) ((hx.step s1).step s2)
    exact hq n3 ((x, y) :: qs) ((dx, dy) :: ps) μ3 ((s1.trans s2).trans s3) r3 (.cons ((s2.trans s3).rep p1) a) (.cons (s3.rep p2) b) q3
theorem de_dict (fz : Bool) {ks : List (Option Expr)} {vs : List Expr} {trs : List (DTE × DTE)} (h : DPs X W ks vs trs) (hall : ks.all (·.isSome) = true := by rfl) (hl : ks.length = vs.length := by rfl) (h0 : ks ≠ [] := by simp) (h15 : ks.length ≤ 15 := by decide) :
    DE X W (.Dict ks vs pos) (dDict fz trs) := PE.imp (pe_disp h.pps hall hl h0 h15) fun σ H Q ⟨n, Γ, μ, Qd, Ed, hH, sr, gr, h, hq, hx⟩ => by
  subst hH
  intro p hp
  have hid : Hid (n.more p (.dK [])) p := ⟨sr.hb hp, sr.nal hp, sr.nph hp⟩
  have s0 : Step n (n.more p (.dK [])) := Step.other (Step.refl n) hp
  refine pairs_go (n := n.more p (.dK [])) trs (sr.other ⟨hid.b, hid.a, hid.ph⟩) (gr.step s0) h (fun n1 qs ps μ1 s1 r1 a b q1 => ?_) (hx.step s0)
  obtain ⟨hid1, hp1⟩ := hid.step upd_same s1
  refine ⟨hp1, ?_⟩
  try dsimp only at q1
  split at q1
  · rename_i kvs e
    obtain ⟨us, eq, hr⟩ := keysD_of e a b
    have hlk : us.length = kvs.length := by have := congrArg List.length hr.1; simpa using this.symm
    have hm := RepK.merge hr (RepK.nil (K := X.K) (Hb := n1.Hb) (al := n1.al))
    refine ⟨us, eq, by rw [hlk]; exact q1.1, ?_⟩
    have s2 : Step n (n1.more p (.dK (mergeK [] us))) := Step.other (s0.trans s1) hp
    have r2 : SR0 X.K (n1.more p (.dK (mergeK [] us))) μ1 := r1.other hid1
    have hid2 : Hid (n1.more p (.dK (mergeK [] us))) p := ⟨hid1.b, hid1.a, hid1.ph⟩
    have q2 := q1.2
    unfold dFinD at q2
    cases fz with
    | true =>
      refine hq ⟨upd n1.Hb p (.dK (mergeK [] us)), upd n1.H p (.dK (mergeK [] us)), n1.al, n1.ph⟩ _ (.dct (mergeKD [] kvs)) μ1 (Step.adopt s2 hp hid2) (r2.adopt hid2 upd_same) ?_ q2
      have z : Rep X.K (upd n1.Hb p (.dK (mergeK [] us))) n1.al (.ref p) (.dct (((mergeK [] us).map (·.1)).zip ((mergeKD [] kvs).map (·.2)))) := .dct (.inl upd_same) rfl (hm.2.mono (same_upd hid1.b) (List.prefix_refl _))
      rw [zip_maps _ _ hm.1] at z
      exact z
    | false =>
      refine hq ⟨n1.Hb, upd n1.H p (.dK (mergeK [] us)), n1.al ++ [p], n1.ph⟩ _ (.ref μ1.length) (μ1 ++ [Cell.dct (mergeKD [] kvs)]) (Step.adoptC s2 hp) (r2.adoptC hid2 upd_same (c := .dct (mergeKD [] kvs)) ⟨hid1.b, _, upd_same, hm.1, hm.2.mono (Same.refl _) (List.prefix_append _ _)⟩ (fun k z => by cases z)) (.ref ?_) q2
      show (n1.al ++ [p])[μ1.length]? = _
      rw [← r1.len]; simp
  · exact q1.elim
end
end DV
/-! Readings: comprehensions and loops by an invariant; the oracle's place in the cells. -/
namespace DV
open PySem PySem.Spec PyProof.Rows L2
theorem comp_invA {src : Option (Nat × List D)} {g : D → Gam → Mu → (Gam → Prop) → Prop} {tt : DTT} {te : DTE} {Γ : Gam} {Q : List D → Mu → Prop} (I : Nat → List D → Mu → Prop) : ∀ (ds acc : List D) (μ : Mu) (k : Nat),
    (∀ i d acc μ, ds[i]? = some d → I (k + i) acc μ → Gd src μ ∧ ∀ (K1 : D → Mu → Prop) (K2 : Mu → Prop), (∀ y μ3, I (k + i + 1) (acc ++ [y]) μ3 → K1 y μ3) → (∀ μ2, I (k + i + 1) acc μ2 → K2 μ2) → g d Γ μ fun Γ1 => tt Γ1 μ (fun b μ2 => cond b (te Γ1 μ2 K1 fun _ _ => False) (K2 μ2)) fun _ _ => False) →
    acc.length + ds.length ≤ sizeLine → I k acc μ → (∀ acc μ, I (k + ds.length) acc μ → Gd src μ ∧ Q acc μ) → dCompL src g tt te Γ ds acc μ Q
  | [], acc, μ, k, _, _, h0, he => he acc μ h0
  | d :: ds, acc, μ, k, hs, hl, h0, he => by
    rw [List.length_cons] at hl
    obtain ⟨h1, h2⟩ := hs 0 d acc μ rfl h0
    refine ⟨h1, h2 _ _ (fun y μ3 hi => ⟨by omega, ?_⟩) (fun μ2 hi => ?_)⟩
    · refine comp_invA I ds _ μ3 (k + 1) (fun i e acc μ he hi => ?_) (by simp; omega) hi (fun acc μ hi => ?_)
      · have := hs (i + 1) e acc μ (by simpa using he) (by rw [show k + (i + 1) = k + 1 + i from by omega]; exact hi)
        rw [show k + (i + 1) + 1 = k + 1 + i + 1 from by omega] at this
        exact this
      · exact he acc μ (by rw [List.length_cons, show k + (ds.length + 1) = k + 1 + ds.length from by omega]; exact hi)
    · refine comp_invA I ds _ μ2 (k + 1) (fun i e acc μ he hi => ?_) (by omega) hi (fun acc μ hi => ?_)
      · have := hs (i + 1) e acc μ (by simpa using he) (by rw [show k + (i + 1) = k + 1 + i from by omega]; exact hi)
        rw [show k + (i + 1) + 1 = k + 1 + i + 1 from by omega] at this
        exact this
      · exact he acc μ (by rw [List.length_cons, show k + (ds.length + 1) = k + 1 + ds.length from by omega]; exact hi)
/-- a comprehension by an invariant: the turn's number, what is gathered, the cells -/
theorem comp_inv {src : Option (Nat × List D)} {g : D → Gam → Mu → (Gam → Prop) → Prop} {tt : DTT} {te : DTE} {Γ : Gam} {Q : List D → Mu → Prop} (I : Nat → List D → Mu → Prop) {ds : List D} {μ : Mu} (h0 : I 0 [] μ) (hl : ds.length ≤ sizeLine)
    (hs : ∀ i d acc μ, ds[i]? = some d → I i acc μ → Gd src μ ∧ ∀ (K1 : D → Mu → Prop) (K2 : Mu → Prop), (∀ y μ3, I (i + 1) (acc ++ [y]) μ3 → K1 y μ3) → (∀ μ2, I (i + 1) acc μ2 → K2 μ2) → g d Γ μ fun Γ1 => tt Γ1 μ (fun b μ2 => cond b (te Γ1 μ2 K1 fun _ _ => False) (K2 μ2)) fun _ _ => False)
    (he : ∀ acc μ, I ds.length acc μ → Gd src μ ∧ Q acc μ) : dCompL src g tt te Γ ds [] μ Q :=
  comp_invA I ds [] μ 0 (fun i d acc μ h => by rw [Nat.zero_add]; exact hs i d acc μ h) (by simpa using hl) h0 (fun acc μ h => he acc μ (by simpa using h))
theorem loop_invA {src : Option (Nat × List D)} {g : DTG} {body : DTS} {De : DEnds} (I : Nat → Gam → Mu → Prop) : ∀ (ds : List D) (Γ : Gam) (μ : Mu) (k : Nat),
    (∀ i d Γ μ, ds[i]? = some d → I (k + i) Γ μ → Gd src μ ∧ ∀ (Kn : Gam → Mu → Prop), (∀ Γ' μ', I (k + i + 1) Γ' μ' → Kn Γ' μ') → g d Γ μ (fun Γ1 μ1 => body { De with nx := Kn, ct := Kn, bk := De.nx } Γ1 μ1) (fun x μ1 => De.ex x Γ μ1)) →
    I k Γ μ → (∀ Γ μ, I (k + ds.length) Γ μ → Gd src μ ∧ De.nx Γ μ) → dLoop src g body ds De Γ μ
  | [], Γ, μ, k, _, h0, he => he Γ μ h0
  | d :: ds, Γ, μ, k, hs, h0, he => by
    obtain ⟨h1, h2⟩ := hs 0 d Γ μ rfl h0
    refine ⟨h1, h2 _ fun Γ' μ' hi => ?_⟩
    refine loop_invA I ds Γ' μ' (k + 1) (fun i e Γ μ he hi => ?_) hi (fun Γ μ hi => ?_)
    · have := hs (i + 1) e Γ μ (by simpa using he) (by rw [show k + (i + 1) = k + 1 + i from by omega]; exact hi)
      rw [show k + (i + 1) + 1 = k + 1 + i + 1 from by omega] at this
      exact this
    · exact he Γ μ (by rw [List.length_cons, show k + (ds.length + 1) = k + 1 + ds.length from by omega]; exact hi)
theorem loop_inv {src : Option (Nat × List D)} {g : DTG} {body : DTS} {De : DEnds} (I : Nat → Gam → Mu → Prop) {ds : List D} {Γ : Gam} {μ : Mu} (h0 : I 0 Γ μ)
    (hs : ∀ i d Γ μ, ds[i]? = some d → I i Γ μ → Gd src μ ∧ ∀ (Kn : Gam → Mu → Prop), (∀ Γ' μ', I (i + 1) Γ' μ' → Kn Γ' μ') → g d Γ μ (fun Γ1 μ1 => body { De with nx := Kn, ct := Kn, bk := De.nx } Γ1 μ1) (fun x μ1 => De.ex x Γ μ1))
    (he : ∀ Γ μ, I ds.length Γ μ → Gd src μ ∧ De.nx Γ μ) : dLoop src g body ds De Γ μ :=
  loop_invA I ds Γ μ 0 (fun i d Γ μ h => by rw [Nat.zero_add]; exact hs i d Γ μ h) h0 (fun Γ μ h => he Γ μ (by simpa using h))
theorem irng_get {lo : Int} {n i : Nat} {d : D} (h : (irng lo n)[i]? = some d) : i < n ∧ d = .int (lo + i) := by
  unfold irng at h
  rw [List.getElem?_map, Option.map_eq_some_iff] at h
  obtain ⟨j, h1, h2⟩ := h
  obtain ⟨h3, h4⟩ := List.getElem?_eq_some_iff.mp h1
  simp at h3 h4
  subst h4
  exact ⟨h3, h2.symm⟩
theorem irng_len (lo : Int) (n : Nat) : (irng lo n).length = n := by simp [irng]
/-! the oracle's cell -/
def M (μ : Mu) (l c : Nat) : Mu := μ.set l (.orc (c, true))
/-! equality of texts, and of rows of them -/
end DV
/-! Words: plain facts on the names that a law draws. -/
namespace DV
open PySem PySem.Spec PyProof.Rows L2
/-! numbers below 64 as texts -/
end DV
local macro_rules | `(tactic| walk_at "dv") => `(tactic| try simp only [DV.dSeq, DV.dIf, DV.dOrT, DV.dAndT, DV.dNotT, DV.dTest, DV.dChain, DV.dC, DV.dCall, DV.gLen, DV.dCons, DV.dVar, DV.dNil, DV.dBin, DV.dUn, DV.gNeg, DV.gIn, DV.gIx, DV.dRet, DV.dRetN, DV.dNext, DV.dFor, DV.dIter, DV.dName, DV.lk, DV.dAsg, DV.dDrop, DV.gLst, DV.gTup, DV.gLstM, DV.gAdd, DV.gI, DV.gMod, DV.gMul, DV.gFdiv, DV.gPow, DV.gAbs, DV.gInt, DV.gList, DV.gTuple, DV.dOp, DV.dOpK, DV.dIsi, DV.tyD, DV.gIs, DV.gIsNot, DV.D.isN, DV.dJoin, DV.dCellM, DV.dSetI, DV.dSlice, DV.dPart, DV.dNoPart, DV.dRevA, DV.dFin, DV.dAugI, DV.dComp, DV.wipeG, DV.cName, DV.cPair, DV.dYes, DV.dRange1, DV.dRange2, DV.dAnd, DV.dOr, DV.dNot, DV.dIfE, DV.gEq, DV.gNe, DV.sgn_one, DV.atI_zero, DV.dTruth, DV.truD, DV.dBreak, DV.dCont, DV.gSorted, DV.dSortK, DV.dRevT, DV.gInD, DV.gIsB, DV.gStr, DV.dPop0, DV.dDict, DV.dPairs, DV.keysD, DV.keyOfD, DV.dFinD, DV.dFld, DV.dSetF, DV.dMake, DV.dMethod, DV.dProp, DV.dOwnIx, DV.dNever,
  List.getElem?_cons_zero, List.getElem?_cons_succ, List.set_cons_zero, List.set_cons_succ, List.map_cons, List.map_nil, List.length_cons, List.length_nil, List.replicate, List.cons_append, List.nil_append, DV.start0, if_true, if_false, Bool.not_true, Bool.not_false, Bool.false_eq_true, Bool.true_and, Bool.and_true, Bool.or_true, Bool.true_or, Bool.false_or, Bool.or_false, eq_self_iff_true, not_true_eq_false, not_false_eq_true, ite_true, ite_false, cond_true, cond_false])
/-! The reading of the law's own `_law_names`. -/
namespace DV
open PySem PySem.Spec PyProof.Rows L2
end DV
/-! Sets of outcomes: all_sets, is_set, others; the law's own. -/
namespace DV
open PySem PySem.Spec PyProof.Rows L2
def sortS (xs : List Str) : List Str := xs.mergeSort fun a b => leBy id (.str a) (.str b)
theorem sortS_perm (xs : List Str) : (sortS xs).Perm xs := List.mergeSort_perm _ _
/-! all_sets -/
end DV
/-! Sets of texts whose table can be walked: new, add, sorted. -/
namespace DV
open PySem PySem.Spec PyProof.Rows L2 PySem.Froz
def SetT (P : Program) (w : World) (h : Heap) (a : Addr) (l : List Str) : Prop :=
  ∃ Dd : SD, h.get? a = some (sObj "set" Dd) ∧ TxOk P w Dd l ∧ l.Nodup ∧ l.length < scanBound ∧ Ris Dd.2.2.place.toList ∧ (w.params.followText "set-order" = true ∨ Dd.2.2.led = true)
section
variable {P : Program} {w : World} {A : Around} {E : Value → Shared → Prop} {s : Shared} {a : Addr} {l : List Str}
theorem SetT.keep {h h' : Heap} (r : SetT P w h a l) (k : ∀ o, h.get? a = some o → h'.get? a = some o) : SetT P w h' a l := by
  obtain ⟨Dd, h1, h2⟩ := r
  exact ⟨Dd, k _ h1, h2⟩
end
/-! ### sorted -/
end DV
/-! More rules: lists made by * as cells, insert, max of two, pairs as targets, dicts by keys. -/
namespace DV
open PySem PySem.Spec PyProof.Rows L2
section
variable {X : Cx} {W : WX} {a b o e e2 tg : Expr} {pos p apos : Pos} {fa fb fc : DTE}
def gMulM : G2 := fun x y μ Q => match lk μ x, lk μ y with
  | .lst i, .int k => (-(2 ^ 63) ≤ k ∧ k < 2 ^ 63 ∧ i.length * k.toNat ≤ sizeLine) ∧ Q (.ref μ.length) (μ ++ [.lst (List.replicate k.toNat i).flatten])
  | _, _ => False
def gMax2 : GN := fun ds μ Q => match ds with
  | [.int i, .int j] => Q (.int (if j > i then j else i)) μ
  | _ => False
/-! ### a pair as a target -/
def dPair (i j : Nat) : DTG := fun d Γ μ Q _ => match d with
  | .tup [x, y] => Q ((Γ.set i (some x)).set j (some y)) μ
  | _ => False
/-! ### dicts by keys -/
def valD (kvs : List (Key × D)) (k : Key) : Option D := (kvs.find? fun kv => decide (kv.1 = k)).map (·.2)
theorem valD_pos {p : Key × D} {r : List (Key × D)} {k : Key} (e : p.1 = k) : valD (p :: r) k = some p.2 := by simp [valD, List.find?_cons, e]
theorem valD_neg {p : Key × D} {r : List (Key × D)} {k : Key} (e : ¬ p.1 = k) : valD (p :: r) k = valD r k := by simp [valD, List.find?_cons, e]
theorem repk_val {K : PySem.W.Frag} {Hb : Hp} {al : List Addr} : ∀ {kvs : List (Key × D)} {us : List (Key × V)} {k : Key}, RepK K Hb al us kvs → (∀ d, valD kvs k = some d → ∃ v, valV us k = some v ∧ Rep K Hb al v d) ∧ (valD kvs k = none → valV us k = none) := fun {kvs us k} h => by
  obtain ⟨h1, h2⟩ := h
  induction kvs generalizing us with
  | nil =>
    cases us with
    | nil => exact ⟨fun d e => (by cases e), fun _ => rfl⟩
    | cons u us => simp at h1
  | cons c kvs ih =>
    cases us with
    | nil => simp at h1
    | cons u us =>
      obtain ⟨kc, dc⟩ := c
      obtain ⟨ku, vu⟩ := u
      simp only [List.map_cons, List.cons.injEq] at h1
      obtain ⟨rfl, h1⟩ := h1
      cases h2 with
      | cons r1 r2 =>
        obtain ⟨i1, i2⟩ := ih h1 r2
        by_cases e : kc = k
        · rw [valD_pos e, valV_pos e]
          exact ⟨fun d z => ⟨vu, rfl, (by cases z; exact r1)⟩, fun z => (by cases z)⟩
        · rw [valD_neg e, valV_neg e]
          exact ⟨i1, i2⟩
def gDGet : G2 := fun x y μ Q => match lk μ x, keyOfD y with
  | .dct kvs, some k => (match valD kvs k with | some d => Q d μ | none => False)
  | _, _ => False
theorem key_rep {K : PySem.W.Frag} {Hb : Hp} {al : List Addr} {y : V} {dy : D} {k : Key} (r : Rep K Hb al y dy) (h : keyOfD dy = some k) : y = kV k := by
  cases r <;> first | cases h | skip
  all_goals rfl
theorem de_dget (hu : X.A.units + 1 < cLine) (ha : DE X W a fa) (hb : DE X W b fb) (hs : NoSl b := by exact fun _ _ => rfl) : DE X W (.Subscript a b pos) (dBin gDGet fa fb) := PE.imp (pe_dget hu ha hb hs) fun σ H Q ⟨n, Γ, μ, Qd, Ed, hH, sr, gr, h, hq, hx⟩ => by
  subst hH
  refine lift_go sr gr h (fun n1 x dx μ1 s1 r1 p1 q1 => lift_go r1 (gr.step s1) q1 (fun n2 y dy μ2 s2 r2 p2 q2 => ?_) (hx.step s1)) hx
  unfold gDGet at q2
  split at q2
  · rename_i kvs k e1 e2
    obtain ⟨c, us, rfl, h1, h2, h3⟩ := see_dct r2 (s2.rep p1) e1
    have hk := key_rep p2 e2
    subst hk
    split at q2
    · rename_i d e3
      obtain ⟨v, g1, g2⟩ := (repk_val ⟨h2, h3⟩).1 d e3
      exact ⟨c, v, rfl, g1 ▸ .inl ⟨us, k, h1, rfl, rfl⟩, hq n2 v d μ2 (s1.trans s2) r2 g2 q2⟩
    · exact q2.elim
  · exact q2.elim
/-! d[k] = v -/
def dSetD (fo fi : DTE) : DTG := fun d Γ μ Q E => fo Γ μ (fun x μ1 => fi Γ μ1 (fun i μ2 => match x, keyOfD i with
  | .ref l, some k => (match μ2[l]? with
    | some (.dct kvs) => kvs.length < sizeLine ∧ Q Γ (μ2.set l (.dct (putKD kvs k d)))
    | _ => False)
  | _, _ => False) E) E
theorem dg_setD {i : Expr} (h : PG X (.Subscript o i pos) (gSub (lift X.K W fa) (lift X.K W fb) rSetD)) : DG X W (.Subscript o i pos) (dSetD fa fb) := PG.imp h fun v σ H Q ⟨n, d, Γ, μ, Qd, Ed, hH, sr, gr, rp, h, hq, hx⟩ => by
  subst hH
  refine lift_go sr gr h (fun n1 x dx μ1 s1 r1 p1 q1 => lift_go r1 (gr.step s1) q1 (fun n2 y dy μ2 s2 r2 p2 q2 => ?_) (hx.step s1)) hx
  split at q2
  · rename_i l k e1
    cases p1 with
    | @ref _ c hl =>
      have hk := key_rep p2 e1
      subst hk
      split at q2
      · rename_i kvs e
        have hl2 := pre_get s2.pre hl
        obtain ⟨hb, us, g1, g2, g3⟩ := r2.cell _ _ _ hl2 e
        have hlen : kvs.length = us.length := len_of_maps (δ := Nat) g2
        obtain ⟨z1, z2⟩ := RepK.put (k := k) ⟨g2, g3⟩ ((s1.trans s2).rep rp)
        refine ⟨c, _, rfl, DPut.k g1 (by rw [← hlen]; exact q2.1), ?_⟩
        exact hq (n2.more c (.dK (putK us k v))) Γ σ _ ((s1.trans s2).trans (Step.write hl2 hb)) (r2.write hl2 hb (c := .dct (putKD kvs k d)) ⟨hb, _, upd_same, z1, z2⟩ (fun k z => by cases z)) ((gr.step (s1.trans s2)).step (Step.write hl2 hb)) q2.2
      · exact q2.elim
  · exact q2.elim
/-! {} -/
def dDict0 : DTE := fun _ μ Q _ => Q (.ref μ.length) (μ ++ [.dct []])
/-! truth -/
end
end DV
/-! Comprehensions with two for. -/
namespace DV
open PySem PySem.Spec PyProof.Rows L2
def dCompO (src : Option (Nat × List D)) (g : D → Gam → Mu → (Gam → Prop) → Prop) (fi1 : DTI) (g1 : D → Gam → Mu → (Gam → Prop) → Prop) (tt1 : DTT) (te : DTE) (vs1 : List Nat) (Γ : Gam) : List D → List D → Mu → (List D → Mu → Prop) → Prop
  | [], acc, μ, Q => Gd src μ ∧ Q acc μ
  | d :: ds, acc, μ, Q => Gd src μ ∧ g d Γ μ fun Γ1 => fi1 Γ1 μ (fun src1 ds1 μ1 => dCompL src1 g1 tt1 te (wipeG Γ1 vs1) ds1 acc μ1 fun acc2 μ2 => dCompO src g fi1 g1 tt1 te vs1 Γ ds acc2 μ2 Q) fun _ _ => False
def dComp2 (fz : Bool) (vs vs1 : List Nat) (fi : DTI) (g : D → Gam → Mu → (Gam → Prop) → Prop) (fi1 : DTI) (g1 : D → Gam → Mu → (Gam → Prop) → Prop) (tt1 : DTT) (te : DTE) : DTE := fun Γ μ Q E => fi Γ μ (fun src ds μ1 => dCompO src g fi1 g1 tt1 te vs1 (wipeG Γ vs) ds [] μ1 fun acc μ2 => dFin fz acc μ2 Q) E
theorem GR.sp {K : PySem.W.Frag} {n n' : Now} {Γ : Gam} {σ : L2.St} (g : GR K n Γ σ) (s : SP n n') : GR K n' Γ σ := ⟨g.len, fun i d h => let ⟨v, h1, h2⟩ := g.at_ i d h; ⟨v, h1, s.rep h2⟩⟩
end DV
/-! {e for x in xs for y in ys} of texts, sorted. -/
namespace DV
open PySem PySem.Spec PyProof.Rows L2
def addS (l : List Str) (k : Str) : List Str := if k ∈ l then l else k :: l
/-! ### the comprehension: two clauses without tests -/
/-! an iterator between two turns -/
end DV
/-! sorted({e for x in xs for y in ys}) of texts, deep. -/
namespace DV
open PySem PySem.Spec PyProof.Rows L2
def dScL (src : Option (Nat × List D)) (g : D → Gam → Mu → (Gam → Prop) → Prop) (te : DTE) (Γ : Gam) : List D → List Str → Mu → (List Str → Mu → Prop) → Prop
  | [], acc, μ, Q => Gd src μ ∧ Q acc μ
  | d :: ds, acc, μ, Q => Gd src μ ∧ g d Γ μ fun Γ1 => te Γ1 μ (fun y μ2 => match y with | .str z => acc.length + 1 < scanBound ∧ dScL src g te Γ ds (addS acc z) μ2 Q | _ => False) fun _ _ => False
def dScO (src : Option (Nat × List D)) (g : D → Gam → Mu → (Gam → Prop) → Prop) (fi1 : DTI) (g1 : D → Gam → Mu → (Gam → Prop) → Prop) (te : DTE) (vs1 : List Nat) (Γ : Gam) : List D → List Str → Mu → (List Str → Mu → Prop) → Prop
  | [], acc, μ, Q => Gd src μ ∧ Q acc μ
  | d :: ds, acc, μ, Q => Gd src μ ∧ g d Γ μ fun Γ1 => fi1 Γ1 μ (fun src1 ds1 μ1 => dScL src1 g1 te (wipeG Γ1 vs1) ds1 acc μ1 fun acc2 μ2 => dScO src g fi1 g1 te vs1 Γ ds acc2 μ2 Q) fun _ _ => False
def dSortSC (fz : Bool) (vs vs1 : List Nat) (fi : DTI) (g : D → Gam → Mu → (Gam → Prop) → Prop) (fi1 : DTI) (g1 : D → Gam → Mu → (Gam → Prop) → Prop) (te : DTE) : DTE := fun Γ μ Q E => fi Γ μ (fun src ds μ1 => dScO src g fi1 g1 te vs1 (wipeG Γ vs) ds [] μ1 fun acc μ2 => dFin fz ((sortS acc).map .str) μ2 Q) E
end DV
/-! Own classes as callers see them. -/
namespace DV
open PySem PySem.Spec PyProof.Rows L2
/-- the classes' places: Table, Wishes, Unrest, Round, Verdict, Book, Power, Tree, Reader -/
structure Cs where
  T : Addr := 0
  W : Addr := 0
  U : Addr := 0
  R : Addr := 0
  V : Addr := 0
  B : Addr := 0
  P : Addr := 0
  E : Addr := 0
  D : Addr := 0
end DV
/-! The oracle of the second kind: _law_start, _law_take. -/
namespace DV
open PySem PySem.Spec PyProof.Rows L2
structure StB (μ : Mu) (l l0 : Nat) (j k : Int) (xs : List Int) : Prop where
  c : μ[l]? = some (.lst [.ref l0, .int j, .int k])
  c0 : μ[l0]? = some (.lst (xs.map .int))
  n0 : l ≠ l0
section
variable {μ : Mu} {l l0 : Nat} {j k : Int} {xs : List Int}
theorem StB.ix0 (h : StB μ l l0 j k xs) (Q : D → Mu → Prop) : gIx (.ref l) (.int 0) μ Q = Q (.ref l0) μ := by
  unfold gIx; rw [lk_cell h.c]; rfl
theorem StB.ix1 (h : StB μ l l0 j k xs) (Q : D → Mu → Prop) : gIx (.ref l) (.int 1) μ Q = Q (.int j) μ := by
  unfold gIx; rw [lk_cell h.c]; rfl
theorem StB.ix2 (h : StB μ l l0 j k xs) (Q : D → Mu → Prop) : gIx (.ref l) (.int 2) μ Q = Q (.int k) μ := by
  unfold gIx; rw [lk_cell h.c]; rfl
theorem StB.put (h : StB μ l l0 j k xs) (j' k' : Int) : StB (μ.set l (.lst [.ref l0, .int j', .int k'])) l l0 j' k' xs :=
  ⟨by rw [List.getElem?_set_self (List.getElem?_eq_some_iff.mp h.c).1], by rw [List.getElem?_set_ne h.n0]; exact h.c0, h.n0⟩
end
theorem get_app1_lt {α : Type} {l : List α} {x z : α} {i : Nat} (h : (l ++ [x])[i]? = some z) : (i < l.length ∧ l[i]? = some z) ∨ (i = l.length ∧ z = x) := by
  by_cases hi : i < l.length
  · rw [List.getElem?_append_left hi] at h; exact .inl ⟨hi, h⟩
  · have hl := (List.getElem?_eq_some_iff.mp h).1
    simp at hl
    have h2 : i = l.length := by omega
    subst h2; simp at h; exact .inr ⟨rfl, h.symm⟩
/-! the start -/
end DV
/-! The head by facts: defs of the top, methods, getters of properties; the end of a law over it. -/
namespace DV
open PySem PySem.Spec PyProof.Rows L2
inductive At where
  | glo (x : Str) | meth (C m : Str) | prop (C f : Str) | ali (x y : Str)
def propA (K : PySem.W.Frag) (C : Addr) (f : Str) : Addr := match PySem.W.findIn K (.ref C) f with
  | some (some (.ref p)) => p
  | _ => 0
def getA (K : PySem.W.Frag) (p : Addr) : Addr := match PySem.W.recIn K p "property" with
  | some (.ref g :: _) => g
  | _ => (match PySem.W.recIn K p "classmethod" with
    | some (.ref g :: _) => g
    | _ => 0)
def At.ad (K : PySem.W.Frag) : At → Addr
  | .glo x => He.ga K x
  | .meth C m => He.ma K (He.ga K C) m
  | .prop C f => getA K (propA K (He.ga K C) f)
  | .ali x _ => He.ga K x
def At.name : At → Str
  | .glo x => x
  | .meth _ m => m
  | .prop _ f => f
  | .ali _ y => y
/-- a def: where it stands, its qualified name, its statement -/
structure DefA where
  at_ : At
  qual : Str
  st : Stmt
def DefA.obs (K : PySem.W.Frag) (d : DefA) : He.FnV := match K.lookup (d.at_.ad K) with
  | some ⟨_, _, .func fd, _⟩ => some (fd.name, fd.qualname, fd.params, fd.body, fd.scope, fd.globals, fd.closure, fd.defaults, fd.builtins)
  | _ => none
def DefA.val (d : DefA) : He.FnV := some (d.at_.name, d.qual, defArgs d.st, .stmts (defBody d.st), defScope d.st, mainGlobals, [], .none, builtinsNs)
def DefA.ok (K : PySem.W.Frag) (d : DefA) : Bool := PySem.W.keepIn K (.ref (d.at_.ad K)) && (match K.lookup (d.at_.ad K) with
  | some ⟨_, _, .func fd, _⟩ => PySem.W.codeIn K fd.code d.qual
  | _ => false)
theorem DefA.fun_ {K : PySem.W.Frag} {d : DefA} (e : d.obs K = d.val) (c : d.ok K = true) : ∃ fd, Fun K d.at_.name d.qual d.st (d.at_.ad K) fd := by
  obtain ⟨kp, c2⟩ := He.ba c
  unfold DefA.obs at e
  cases q : K.lookup (d.at_.ad K) with
  | none =>
    rw [q] at c2
    cases c2
  | some o =>
    obtain ⟨oc, od, dt, osl⟩ := o
    rw [q] at c2 e
    cases dt with
    | func fd =>
      obtain ⟨n1, n2, n3, n4, n5, n6, n7, n8, n9, n10, n11, n12, n13, n14, n15⟩ := fd
      have e2 : (some (n1, n2, n3, n4, n5, n6, n7, n8, n15) : He.FnV) = some (d.at_.name, d.qual, defArgs d.st, .stmts (defBody d.st), defScope d.st, mainGlobals, [], .none, builtinsNs) := e
      simp only [Option.some.injEq, Prod.mk.injEq] at e2
      obtain ⟨h1, h2, h3, h4, h5, h6, h7, h8, h9⟩ := e2
      subst h1 h2 h3 h4 h5 h6 h7 h8 h9
      exact ⟨_, fun_mk q c2 kp⟩
    | _ => cases c2
/-- what is looked at: the globals named, their codes, the classes' dicts and bases, the methods and getters named, and their codes -/
def refsS (o : Obj) : List Addr := match o.data with
  | .func fd => He.refV fd.code
  | .cls cd => cd.ns :: cd.mro.flatMap He.refV
  | _ => []
def behind (g : Addr → Option Obj) (as : List Addr) : List Addr := as.flatMap fun a => match g a with
  | some o => refsS o
  | none => []
/-- forced: each address a numeral -/
def forced : List Addr → (List Addr → List Addr) → List Addr
  | [], k => k []
  | 0 :: r, k => forced r fun r => k (0 :: r)
  | (n + 1) :: r, k => forced r fun r => k ((n + 1) :: r)
structure Names where
  gl : List Str
  me : List (Str × Str)
  pr : List (Str × Str)
def asS (N : Names) (g : Addr → Option Obj) : List Addr :=
  forced (N.gl.map (He.ga (He.frG g [mainGlobals]))) fun a1 => forced (behind g a1) fun a2 =>
  forced (N.me.map fun p => He.ma (He.frG g (mainGlobals :: (a1 ++ a2))) (He.ga (He.frG g [mainGlobals]) p.1) p.2) fun a3 =>
  forced (N.pr.map fun p => propA (He.frG g (mainGlobals :: (a1 ++ a2))) (He.ga (He.frG g [mainGlobals]) p.1) p.2) fun a4 =>
  forced (a4.map fun p => getA (He.frG g [p]) p) fun a5 => forced (behind g (a3 ++ a5)) fun a6 => mainGlobals :: cStatics :: (a1 ++ (a2 ++ (a3 ++ (a4 ++ (a5 ++ a6)))))
abbrev AlA : Type := Bool × List He.FnV
def obsA (fa : List He.Fa) (ex : List (PySem.W.Frag → Bool)) (fn : List DefA) (K : PySem.W.Frag) : AlA := ((fa.all fun f => f.ok K) && ((ex.all fun f => f K) && fn.all fun d => d.ok K), fn.map fun d => d.obs K)
def valA (fn : List DefA) : AlA := (true, fn.map DefA.val)
def SaysA (fa : List He.Fa) (ex : List (PySem.W.Frag → Bool)) (fn : List DefA) (K : PySem.W.Frag) : Prop := obsA fa ex fn K = valA fn
def obsAG (n : Names) (fa : List He.Fa) (ex : List (PySem.W.Frag → Bool)) (fn : List DefA) (g : Addr → Option Obj) : AlA := obsA fa ex fn (He.frG g (asS n g))
def hookA (n : Names) (fa : List He.Fa) (ex : List (PySem.W.Frag → Bool)) (fn : List DefA) : PySem.W.Hook where
  α := AlA
  obs := fun s => obsAG n fa ex fn s.heap.get?
  val := fun _ => valA fn
  says := fun _ h => ∃ K : PySem.W.Frag, K.In h ∧ SaysA fa ex fn K
  of := fun _ _ e => ⟨_, He.frG_in, e⟩
  keeps := fun _ _ _ ⟨K, hK, c⟩ k => ⟨K, PySem.W.Frag.In.keeps hK k, c⟩
theorem obsAG_eq {n : Names} {fa : List He.Fa} {ex : List (PySem.W.Frag → Bool)} {fn : List DefA} {g : Addr → Option Obj} {s : Shared} (h : ∀ a, g a = s.heap.get? a) : obsAG n fa ex fn g = (hookA n fa ex fn).obs s := by
  have e : g = s.heap.get? := funext h
  rw [e] <;> rfl
section
variable {fa : List He.Fa} {ex : List (PySem.W.Frag → Bool)} {fn : List DefA} {K : PySem.W.Frag}
theorem SaysA.all (c : SaysA fa ex fn K) : (fa.all fun f => f.ok K) = true ∧ (ex.all fun f => f K) = true ∧ (fn.all fun d => d.ok K) = true := by
  obtain ⟨c1, c2⟩ := He.ba (show ((fa.all fun f => f.ok K) && ((ex.all fun f => f K) && fn.all fun d => d.ok K)) = true from congrArg (fun z : AlA => z.1) c)
  exact ⟨c1, He.ba c2⟩
theorem SaysA.fact (c : SaysA fa ex fn K) (i : Nat) {f : He.Fa} (h : fa[i]? = some f := by rfl) : f.ok K = true := List.all_eq_true.mp c.all.1 f (List.mem_of_getElem? h)
theorem SaysA.ex_ (c : SaysA fa ex fn K) (i : Nat) {f : PySem.W.Frag → Bool} (h : ex[i]? = some f := by rfl) : f K = true := List.all_eq_true.mp c.all.2.1 f (List.mem_of_getElem? h)
theorem SaysA.def_ (c : SaysA fa ex fn K) (i : Nat) {d : DefA} (h : fn[i]? = some d := by rfl) : ∃ fd, Fun K d.at_.name d.qual d.st (d.at_.ad K) fd := by
  have e : fn.map (fun d => d.obs K) = fn.map DefA.val := congrArg (fun z : AlA => z.2) c
  have e2 : (fn.map fun d => d.obs K)[i]? = (fn.map DefA.val)[i]? := by rw [e]
  rw [List.getElem?_map, List.getElem?_map, h] at e2
  exact DefA.fun_ (Option.some.inj e2) (List.all_eq_true.mp c.all.2.2 d (List.mem_of_getElem? h))
end
/-- the end of a law, over such a head -/
theorem walk_deepE {l : PySem.W.OpenLaw} {n k : Nat} {q : Program} {loose : List Str} {XP : (Str → Option Value) → Heap → Prop} {YP : World → Heap → Prop} {d : DefRec} {S : DSp} {x : Str}
    (hn : l.most = some n) (hn2 : n ≤ sizeLine ∧ k ≤ 60) (hdf : d.params.defaults = [])
    (F : ∀ (w : World) (mg : Str → Option Value) (fa : Addr) (h : Heap), YP w h → h.Ns mainGlobals mg → mg d.name = some (.ref fa) →
      ∃ (K : PySem.W.Frag) (fd : FuncData), K.In h ∧ (∀ (s : Shared) (u : Value), BindsTo s fd ⟨[u], []⟩ [(x, u)]) ∧ ∀ base : Heap, K.In base → base.Ns mainGlobals mg → FnOk l.prog w K mg base (L2N.CX l.prog w) k fa fd [x] (spOf K S))
    (hsp : ∀ ns : List Int, ns.length ≤ n → S [.scr ns] [] (fun d _ => d = .bl true) fun _ _ => False) : PySem.W.WalkO q loose XP YP l.row.toRowW d [] (fun f vs => PySem.call f vs) := by
  have hr : Room 60 callerA := ⟨rfl, by decide, by decide⟩
  refine Att.attach_call hn hdf fun w s₀ s₁ mg mb fa o pm cd doc a vs ns G Y ho hd hcd hmg hobj hints hlen hg => ?_
  obtain ⟨K, fd, KX, hb, hF⟩ := F w mg fa _ Y G.T.g hmg
  refine law_call KX G.T.g G.T.b G.T.builtins G.T.nolimit hg hobj hints (Nat.le_trans hlen hn2.1) (hr.mono hn2.2) hF hb (fun H hO hS => ?_) fun H e s' h => ?_
  · refine ⟨⟨H, H, [], []⟩, [.scr ns], [], fun d _ => d = .bl true, fun _ _ => False, rfl, ⟨Same.refl _, rfl, List.nodup_nil, fun i a c h => by simp at h, fun a h => (by cases h), fun i j a b h => by simp at h, fun b h => (by cases h)⟩, .cons (.scr hS) .nil, hsp ns hlen, ?_, fun _ _ _ _ _ _ _ _ z => z.elim⟩
    rintro n' v d μ' _ _ r rfl
    cases r; rfl
  · obtain ⟨_, _, _, _, _, _, _, _, _, _, _, _, z⟩ := h
    exact z
end DV
/-! Own exceptions: their __init__, raise, try with several clauses (over the hand layer). -/
namespace DV
open PySem PySem.Spec PyProof.Rows L2
/-- the base of the program's errors: an own class whose __init__ is ValueError's -/
structure BaseX (K : PySem.W.Frag) (B : Addr) : Prop where
  rd : PySem.W.readsIn K B (.type "type") = true
  ga : PySem.W.specialIn K (.ref B) "__getattribute__" = some (some (.builtin "type.__getattribute__"))
  fc : PySem.W.findCls K (.ref B) (.type "type") "__init__" = some (.val (.builtin "ValueError.__init__"))
section
variable {X : Cx} {e o : Expr} {es : List Expr} {ta : TA} {to te : TE} {p1 p2 p pos : Pos} {B C : Addr} {f : Str}
theorem pe_baseInit {pl : Sem Bool} {x : Str} (b : BaseX X.K B) (hg : Gl X x) (hm : X.mg x = some (.ref B)) (hdb : (x == ("__debug__" : Str)) = false) (ha : PA X (e :: es) ta)
    (hc : eval (.Call (.Attribute (.Name x p1) "__init__" p2) (e :: es) [] pos) X.env = (do let ov ← eval (.Name x p1) X.env; standAt p2.atName; let (f, first) ← holding [ov] (getMethod ov "__init__" pl); callWith pos f first (backTo pos (starEach (e :: es) X.env)) (backToKw pos (keywordEach [] X.env))) := by rfl)
    (he : starEach (e :: es) X.env = (false, eval e X.env) :: starEach es X.env := by rfl) (hpl : (backTo pos (starEach es X.env)).any (·.1) = false := by rfl) :
    PE X (.Call (.Attribute (.Name x p1) "__init__" p2) (e :: es) [] pos) (tVeI X.K ta) := ⟨fun pins s σ H Q I h => by
  refine PySem.W.methodCall_KW (ld_glob I hg hm ?_ hdb) hc
  refine PySem.W.method_cls I.kIn b.ga (PySem.W.cls_value I.kIn b.rd b.fc rfl ?_)
  show wpAny _ _ (callWith pos (Value.builtin "ValueError.__init__") [] _ []) _ _ _
  refine PyProof.Rows.callWith_method1 (thn (ha.run pos pins _ σ H _ (I.tok _) h) ?_) he hpl
  rintro us s1 ⟨vs, H1, I1, r1, a, C, ws, rfl, hl, T, ea, q⟩
  cases r1 with
  | cons ra rr =>
    cases ra
    refine oinit_ok T I1 ea ?_ fun s' J => ⟨.non, H1, J, rfl, q⟩
    have := Paired.length rr
    rw [← this, sizeLine_eq]; omega⟩
/-- what __init__ of an error with one field does -/
def spI1 (C : Addr) (f : Str) : Sp := fun vs H Q _ => ∃ a y, vs = [.ref a, y] ∧ H a = some (exo a C none) ∧ ∀ dx, H dx = none → dx ≠ a → Q .non (upd (upd H dx (exd dx [(f, y)])) a (exo a C (some dx)))
/-- .. of one without -/
def spI0 (C : Addr) : Sp := fun vs H Q _ => ∃ a, vs = [.ref a] ∧ H a = some (exo a C none) ∧ Q .non H
end
def tI1 (K : PySem.W.Frag) (m f : Str) : TS := tSeq (L2.tDrop (tVeI K (tCons (tVar 0) (tCons (tC (.str m)) tNil)))) (tOst K f (tVar 0) (tVar 1))
def tI0 (K : PySem.W.Frag) (m : Str) : TS := L2.tDrop (tVeI K (tCons (tVar 0) (tCons (tC (.str m)) tNil)))
section
variable {P : Program} {w : World} {K : PySem.W.Frag} {mg : Str → Option Value} {base : Heap} {C : Addr} {m f : Str} {fI : Addr} {fd : FuncData} {st : Stmt} {x qual n1 n2 : Str}
theorem ok_I1 (F : Fun K x qual st fI fd) (Sc : FnScope [n1, n2] [n1, n2] (defScope st)) (T : OexC K C) (hno : PySem.W.findIn K (.ref C) f = some none)
    (hb : ∀ (cdv : Value) (A : Around) (outer : List Env) (s : Shared) (H : Hp) (E : XK), PSs (cxOf CX0 P w K mg base [n1, n2] qual (defScope st) fI cdv A outer s H E).nox (defBody st) (tI1 K m f)) : FnOk P w K mg base CX0 1 fI fd [n1, n2] (spI1 C f) := by
  refine F.ok Sc (fun vs H Q E h => ?_) (fun cdv A outer s H vs Q E hr h => ⟨_, hb cdv A outer s H E, ?_⟩)
  · obtain ⟨a, y, rfl, _⟩ := h; rfl
  · obtain ⟨a, y, rfl, ha, q⟩ := h
    exact ⟨.ref a, rfl, a, C, [.str m], rfl, by simp, T, ha, y, rfl, .ref a, rfl, a, C, rfl, T, hno, .inl ⟨ha, fun dx h1 h2 => q dx h1 h2⟩⟩
theorem ok_I0 (F : Fun K x qual st fI fd) (Sc : FnScope [n1] [n1] (defScope st)) (T : OexC K C)
    (hb : ∀ (cdv : Value) (A : Around) (outer : List Env) (s : Shared) (H : Hp) (E : XK), PSs (cxOf CX0 P w K mg base [n1] qual (defScope st) fI cdv A outer s H E).nox (defBody st) (tI0 K m)) : FnOk P w K mg base CX0 1 fI fd [n1] (spI0 C) := by
  refine F.ok Sc (fun vs H Q E h => ?_) (fun cdv A outer s H vs Q E hr h => ⟨_, hb cdv A outer s H E, ?_⟩)
  · obtain ⟨a, rfl, _⟩ := h; rfl
  · obtain ⟨a, rfl, ha, q⟩ := h
    exact ⟨.ref a, rfl, a, C, [.str m], rfl, by simp, T, ha, q⟩
end
/-! ### the error without a field: raise C() -/
end DV
/-! try with several clauses, each with a name or without. -/
namespace DV
open PySem PySem.Spec PyProof.Rows L2
abbrev Clause := Value × Option Nat × (Addr → Value → Option Addr → TS)
end DV
/-! raise, try and e.f at the deep level. -/
namespace DV
open PySem PySem.Spec PyProof.Rows L2
abbrev xa (K : PySem.W.Frag) (k : EK) : Addr := He.ga K k.nm
/-! ### facts of the written part, as Booleans -/
def oexB (K : PySem.W.Frag) (C : Addr) : Bool := (match K.lookup C with
  | some ⟨.type "type", _, .cls cd, sl⟩ => (match cd.mro, sl.toList with
    | .ref C' :: bm, [_, _, _, _, some (.builtin n), _] => C' == C && (n == "ValueError.__new__" && (!cd.hasDel && (cd.hasDict && PySem.HandSPX.refsVE bm)))
    | _, _ => false)
  | _ => false) && (He.eqO (PySem.W.findIn K (.ref C) "__setattr__") (some (some (.builtin "object.__setattr__"))) && (decide (PySem.W.subIn K (.ref C) (.type "BaseException") = some true) && (decide (PySem.W.typeIn K (.ref C) = some (.type "type")) && PySem.W.keepIn K (.ref C))))
theorem oexB_ok {K : PySem.W.Frag} {C : Addr} (h : oexB K C = true) : OexC K C := by
  obtain ⟨q, h⟩ := He.ba h
  obtain ⟨h1, h⟩ := He.ba h
  obtain ⟨h2, h⟩ := He.ba h
  obtain ⟨h3, h4⟩ := He.ba h
  refine ⟨?_, He.eqO_ok h1, of_decide_eq_true h2, of_decide_eq_true h3, h4⟩
  split at q
  · rename_i dd cd sl ho
    split at q
    · rename_i C' bm k0 k1 k2 k3 n k5 hm hs
      simp only [Bool.and_eq_true, beq_iff_eq, Bool.not_eq_true'] at q
      obtain ⟨rfl, rfl, hdel, hdic, ht⟩ := q
      obtain ⟨nm, bs, mro, ns, qn, hd, sn, sub, ab, col, del⟩ := cd
      dsimp only at hm hdel hdic
      subst hm hdel hdic
      have hsl : sl = #[k0, k1, k2, k3, some (.builtin "ValueError.__new__"), k5] := by
        obtain ⟨l⟩ := sl
        simp only at hs
        rw [hs]
      subst hsl
      exact ⟨nm, qn, ns, bs, bm, sn, sub, ab, col, dd, k0, k1, k2, k3, k5, ho, ht⟩
    · cases q
  · cases q
/-- an error class with its __init__ -/
def errB (k : EK) (K : PySem.W.Frag) : Bool := oexB K (xa K k) && (He.eqO (PySem.W.findIn K (.ref (xa K k)) "__init__") (some (some (.ref (He.ma K (xa K k) "__init__")))) && decide (PySem.W.typeIn K (.ref (He.ma K (xa K k) "__init__")) = some (.type "function")))
structure ErrC (K : PySem.W.Frag) (k : EK) (fI : Addr) : Prop where
  T : OexC K (xa K k)
  iC : PySem.W.findIn K (.ref (xa K k)) "__init__" = some (some (.ref fI))
  tI : PySem.W.typeIn K (.ref fI) = some (.type "function")
theorem errB_ok {K : PySem.W.Frag} {k : EK} (h : errB k K = true) : ErrC K k (He.ma K (xa K k) "__init__") := by
  obtain ⟨h1, h⟩ := He.ba h
  obtain ⟨h2, h3⟩ := He.ba h
  exact ⟨oexB_ok h1, He.eqO_ok h2, of_decide_eq_true h3⟩
/-- the base of all errors -/
def baseB (K : PySem.W.Frag) : Bool := PySem.W.readsIn K (He.ga K "ChooserError") (.type "type") && (decide (PySem.W.specialIn K (.ref (He.ga K "ChooserError")) "__getattribute__" = some (some (.builtin "type.__getattribute__"))) && (match PySem.W.findCls K (.ref (He.ga K "ChooserError")) (.type "type") "__init__" with | some (.val (.builtin n)) => n == "ValueError.__init__" | _ => false))
theorem baseB_ok {K : PySem.W.Frag} (h : baseB K = true) : BaseX K (He.ga K "ChooserError") := by
  obtain ⟨h1, h⟩ := He.ba h
  obtain ⟨h2, h3⟩ := He.ba h
  refine ⟨h1, of_decide_eq_true h2, ?_⟩
  split at h3
  · rename_i n e; rw [e, beq_iff_eq.mp h3]
  · cases h3
/-- e.f of an error -/
def xfldB (k : EK) (f : Str) (K : PySem.W.Frag) : Bool := xfB K (xa K k) && He.eqO (PySem.W.findIn K (.ref (xa K k)) f) (some none)
theorem xfldB_ok {k : EK} {f : Str} {K : PySem.W.Frag} (h : xfldB k f K = true) : XfC K (xa K k) ∧ PySem.W.findIn K (.ref (xa K k)) f = some none := by
  obtain ⟨h1, h2⟩ := He.ba h
  exact ⟨xfB_ok h1, He.eqO_ok h2⟩
/-! ### raise -/
def HasE (P : Program) (w : World) (K : PySem.W.Frag) (mg : Str → Option Value) (base : Heap) (k : EK) (f : Str) : Prop :=
  ∃ fI fd n1 n2, mg k.nm = some (.ref (xa K k)) ∧ ErrC K k fI ∧ Binds K fd [n1, n2] [] ∧ FnOk P w K mg base CX0 1 fI fd [n1, n2] (spI1 (xa K k) f)
def HasE0 (P : Program) (w : World) (K : PySem.W.Frag) (mg : Str → Option Value) (base : Heap) (k : EK) : Prop :=
  ∃ fI fd n1, mg k.nm = some (.ref (xa K k)) ∧ ErrC K k fI ∧ Binds K fd [n1] [] ∧ FnOk P w K mg base CX0 1 fI fd [n1] (spI0 (xa K k))
def dRaise (k : EK) (f : Str) (fa : DTE) : DTS := fun Dd Γ μ => fa Γ μ (fun d μ1 => Dd.ex ⟨k, [(f, d)]⟩ Γ μ1) (fun x μ1 => Dd.ex x Γ μ1)
def dRaise0 (k : EK) : DTS := fun Dd Γ μ => Dd.ex ⟨k, []⟩ Γ μ
/-! ### try -/
structure DCl where
  k : EK
  o : Option Nat
  su : Addr → Addr → Nat → DTS
def DCl.cl (K : PySem.W.Frag) (c : DCl) : Clause := (.ref (xa K c.k), c.o, fun a cls d => match c.o with
  | none => liftS K W0 (c.su 0 0 0)
  | some _ => fun Dn σ H => ∃ dd l, cls = .ref (xa K c.k) ∧ d = some dd ∧ liftS K W0 (c.su a dd l) Dn σ H)
end DV
/-! enumerate of a tuple, at the library's level and above. -/
namespace PySem
open Sem (wp)
open AutoSeq1 (wpAny_loadPart')
end PySem
namespace DV
open PySem PySem.Spec PyProof.Rows L2
end DV
/-! any, all, isinstance with an own class, chains of three. -/
namespace DV
open PySem PySem.Spec PyProof.Rows L2
end DV
/-! Dicts: k in d, dict(d), list(d), tuple(d), sorted(d). -/
namespace PySem
open Sem (wp)
open AutoSeq1 (wpAny_loadPart')
end PySem
namespace DV
open PySem PySem.Spec PyProof.Rows L2
end DV
/-! Class methods, and a class called through a variable. -/
namespace DV
open PySem PySem.Spec PyProof.Rows L2 ClX
end DV
/-! for k in d, for k, v in d.items(): the dict is data, and is locked for ever when it is first walked. -/
namespace DV
open PySem PySem.Spec PyProof.Rows L2
end DV
namespace DV
open PySem PySem.Spec PyProof.Rows L2
end DV
/-! min and max of ints, list.index, d.get(k, x), dict comprehensions, global tuples of texts. -/
namespace DV
open PySem PySem.Spec PyProof.Rows L2
/-! {k: v for x in xs} -/
end DV
/-! Class methods and global tuples of texts: the head's facts, the rules. -/
namespace DV
open PySem PySem.Spec PyProof.Rows L2 ClX
/-! global tuples of texts -/
end DV
/-! the run's equation, shown in pieces (each piece runs the top anew: less memory at once) -/
namespace DV
open PySem PySem.Spec PyProof.Rows L2
theorem map_pairR {α β γ : Type} {o : Option α} {f : α → β} {g : α → γ} {a : β} {b : γ} (h1 : o.map f = some a) (h2 : o.map g = some b) : o.map (fun s => (f s, g s)) = some (a, b) := by
  cases o with
  | none => cases h1
  | some x =>
    have e1 : f x = a := Option.some.inj h1
    have e2 : g x = b := Option.some.inj h2
    show some (f x, g x) = _
    rw [e1, e2]
/-- the fragment that is looked at -/
def fragR (n : Names) (s : PySem.W.SharedT) : PySem.W.Frag := He.frG (HandSHeadRun.getT s) (asS n (HandSHeadRun.getT s))
def lookFa (n : Names) (fa : List He.Fa) (s : PySem.W.SharedT) : Bool := fa.all fun f => f.ok (fragR n s)
def lookEx (n : Names) (ex : List (PySem.W.Frag → Bool)) (s : PySem.W.SharedT) : Bool := ex.all fun f => f (fragR n s)
def lookFn (n : Names) (fn : List DefA) (s : PySem.W.SharedT) : AlA := (fn.all fun d => d.ok (fragR n s), fn.map fun d => d.obs (fragR n s))
theorem obs_join {n : Names} {fa : List He.Fa} {ex : List (PySem.W.Frag → Bool)} {fn : List DefA} {o : Option PySem.W.SharedT} (h1 : o.map (lookFa n fa) = some true) (h2 : o.map (lookEx n ex) = some true) (h3 : o.map (lookFn n fn) = some (valA fn)) :
    o.map (fun s => obsAG n fa ex fn (HandSHeadRun.getT s)) = some (valA fn) := by
  cases o with
  | none => cases h1
  | some x =>
    have e1 : lookFa n fa x = true := Option.some.inj h1
    have e2 : lookEx n ex x = true := Option.some.inj h2
    have e3 : lookFn n fn x = valA fn := Option.some.inj h3
    show some (obsAG n fa ex fn (HandSHeadRun.getT x)) = _
    have : obsAG n fa ex fn (HandSHeadRun.getT x) = ((lookFa n fa x) && ((lookEx n ex x) && (lookFn n fn x).1), (lookFn n fn x).2) := rfl
    rw [this, e1, e2, e3]; rfl
end DV
/-! an own error called by keywords, at the library's level. -/
namespace PySem.XKw
open PySem PySem.Spec PyProof.Rows HandSPX
section
variable {M : Model} {A : Around} {E : Value → Shared → Prop} {h : Heap} {g : Array GenState} {d : Drawn} {t : Nat} {os : OsState}
variable {nm q : Str} {C N : Addr} {bs bm bmB : List Value} {hdct : Bool} {sn : List Str} {sub : List Value} {ab : Bool} {col : Option Bool} {dd : Option Addr} {k0 k1 k2 k3 k5 : Option Value} {B newId initId : String}
theorem check_new_kw (F : ExcBaseFacts B newId initId bmB) (hT : ∀ X : String, bm.contains (.type X) = bmB.contains (.type X)) {kw : List (Str × Value)} {Q : Unit → Shared → Prop}
    (hC : h.get? C = some (excClassObj nm q C N bs bm hdct sn sub ab col dd k0 k1 k2 k3 k5 newId)) (hq : Q () ⟨h, g, d, t, os⟩) : wpAny M A (checkBuiltinCall newId ⟨[.ref C], kw⟩) Q E ⟨h, g, d, t, os⟩ := by
  have hcont : (Value.ref C :: bm).contains (.type B) = true := by rw [List.contains_cons, hT, F.hasB, Bool.or_true]
  have hstar := F.noStar
  simp only [checkBuiltinCall, F.newKind, F.newSplit, F.newRow]
  repeat (first | refine wpAny_loadPart_at hC ?_ | (refine wpAny_isSubtype_exc hC ?_; rw [hcont]) | refine wpAny_staticBase_exc hC ?_ | refine wpAny_madeBy_exc hC ?_ | simp only [bne_self_eq_false, Bool.false_eq_true, if_false] | wp_step)
  exact hq
end
section
variable {prog : Program} {w : World} {A : Around} {E : Value → Shared → Prop} {R : Result → Shared → Prop} {h : Heap} {g : Array GenState} {d : Drawn} {t : Nat} {os : OsState}
variable {nm q : Str} {C N : Addr} {bs bm bmB : List Value} {hdct : Bool} {sn : List Str} {sub : List Value} {ab : Bool} {col : Option Bool} {dd : Option Addr} {k0 k1 k2 k3 k5 : Option Value} {B newId initId : String}
theorem new_kw (F : ExcBaseFacts B newId initId bmB) (hT : ∀ X : String, bm.contains (.type X) = bmB.contains (.type X)) {kw : List (Str × Value)}
    (hC : h.get? C = some (excClassObj nm q C N bs bm hdct sn sub ab col dd k0 k1 k2 k3 k5 newId))
    (hq : R (.ok (.ret (.ref (h.objs.size + 1)))) ⟨(h.push { cls := .type "tuple", data := .seq #[] }).push
      { cls := .ref C, data := .fields #[.ref h.objs.size, .none, .none, .none, .bool false, .none] }, g, d, t, os⟩) :
    codeAny (model prog w) A (.builtin newId ⟨[.ref C], kw⟩) R ⟨h, g, d, t, os⟩ := by
  have hends := F.ends
  have hcB : (Value.ref C :: bm).contains (.type B) = true := by rw [List.contains_cons, hT, F.hasB, Bool.or_true]
  have hcA : (Value.ref C :: bm).contains (.type "AttributeError") = false := by rw [List.contains_cons, hT, F.noAttr]; rfl
  have hcN : (Value.ref C :: bm).contains (.type "NameError") = false := by rw [List.contains_cons, hT, F.noName]; rfl
  have hrest : ([] : List Value).length ≤ sizeLine := by rw [sizeLine_eq]; simp
  refine codeAny_builtinAt F.entry ?_
  unfold Builtin.«BaseException.__new__»
  refine wpAt_bind ?_
  show wpAt _ _ _ (stack >>= _) _ _ _
  refine wpAt_bind (wpAt_stack fun p below => wpAt_of_wpAny ?_)
  wp_walk
  refine wpAt_of_wpAny ?_
  rw [F.owner]
  repeat (first | with_reducible refine wpAny_madeHere_exc F.canon hC ?_ | with_reducible refine wpAny_loadPart_at hC ?_ | (with_reducible refine wpAny_isSubtype_exc hC ?_; first | rw [hcB] | rw [hcA] | rw [hcN]) | wp_step)
  show R _ _
  rw [Heap.size_push]
  exact hq
theorem type_call_kw (F : ExcBaseFacts B newId initId bmB) (hT : ∀ X : String, bm.contains (.type X) = bmB.contains (.type X)) {kw : List (Str × Value)} {fI : Addr} {Q : Fin → Shared → Prop}
    (hC : h.get? C = some (excClassObj nm q C N bs bm hdct sn sub ab col dd k0 k1 k2 k3 k5 newId))
    (hi : W.Looks (model prog w) h (typeLookup (.ref C) "__init__") (some (.ref fI))) (hb : ∀ self, W.Looks (model prog w) h (bindSpecial (.ref fI) self) (.ref fI, [self]))
    (hq : codeAny (model prog w) A (.call (.ref fI) ⟨[.ref (h.objs.size + 1)], kw⟩)
      (fun r s' => match r with | .ok (.ret v) => v = .none ∧ Q (.done (.ret (.ref (h.objs.size + 1)))) s' | .ok _ => False | .error e => E e s')
      ⟨(h.push (W.kdv_tup [])).push (excO C h.objs.size), g, d, t, os⟩) :
    wpAny (model prog w) A (Builtin.«type.__call__» ⟨[.ref C], kw⟩) Q E ⟨h, g, d, t, os⟩ := by
  repeat (first | with_reducible refine wpAny_loadPart_at hC ?_ | with_reducible refine wpAny_madeBy_exc hC ?_ | wp_step)
  refine codeAny_call_builtin_code (Code.quiet_builtin _ F.quiet) (check_new_kw F hT hC ?_)
  refine new_kw F hT hC ?_
  show wpAny _ _ _ _ _ _
  have k : ∀ b o, h.get? b = some o → ((h.push (W.kdv_tup [])).push (excO C h.objs.size)).get? b = some o := fun b o e => Heap.get?_push_of_some _ (Heap.get?_push_of_some _ e)
  have hC₁ := k _ _ hC
  have hget : ((h.push (W.kdv_tup [])).push (excO C h.objs.size)).get? (h.objs.size + 1) = some (excO C h.objs.size) := by heap_get
  have hcC : (Value.ref C :: bm).contains (.ref C) = true := by simp
  have i1 := hi.keeps k
  have b1 := (hb (.ref (h.objs.size + 1))).keeps k
  unfold isInstance
  repeat (first | with_reducible refine wpAny_loadPart_at hget ?_ | (with_reducible refine wpAny_isSubtype_exc hC₁ ?_; rw [hcC]) | wp_step)
  show wpAny _ _ (typeLookup (.ref C) _) _ _ _
  refine i1.at ?_
  refine wpAny_holding (wpAny_bind (b1.at ?_))
  refine wpAny_bind (wpAny_call (codeAny_mono hq fun r s' z => ?_))
  rcases r with e | (v | _ | _ | _) <;> first | exact z | exact z.elim | skip
  obtain ⟨rfl, z⟩ := z
  first
    | exact wpAny_pure (wpAny_pure z)
    | (wp_walk; exact z)
theorem call_kw (F : ExcBaseFacts B newId initId bmB) (hT : ∀ X : String, bm.contains (.type X) = bmB.contains (.type X)) {kw : List (Str × Value)} {fI : Addr}
    (hC : h.get? C = some (excClassObj nm q C N bs bm hdct sn sub ab col dd k0 k1 k2 k3 k5 newId))
    (hi : W.Looks (model prog w) h (typeLookup (.ref C) "__init__") (some (.ref fI))) (hb : ∀ self, W.Looks (model prog w) h (bindSpecial (.ref fI) self) (.ref fI, [self]))
    (hq : codeAny (model prog w) (A.under (.builtin "type.__call__" ⟨[.ref C], kw⟩)) (.call (.ref fI) ⟨[.ref (h.objs.size + 1)], kw⟩) (W.InitBack (h.objs.size + 1) R)
      ⟨(h.push (W.kdv_tup [])).push (excO C h.objs.size), g, d, t, os⟩) :
    codeAny (model prog w) A (.call (.ref C) ⟨[], kw⟩) R ⟨h, g, d, t, os⟩ := by
  have f1 := tc_lookup
  have f2 := tc_bind (.ref C)
  have hTy : (⟨h, g, d, t, os⟩ : Shared).TypeIs (.ref C) "type" := ⟨_, hC, rfl⟩
  refine codeAny_of_tree ?_
  show wpAny _ _ (callAny (.ref C) _) _ _ _
  repeat (any_goals (first | assumption | with_reducible refine wpAny_loadPart_at hC ?_ | wp_step))
  refine ⟨rfl, ?_⟩
  refine codeAny_call_builtin_at (Code.quiet_builtin _ (by decide +kernel)) entry_typeCall (wpAny_check_type_call_sub hC (type_call_kw F hT hC hi hb ?_))
  refine codeAny_mono hq fun r s' z => ?_
  rcases r with e | (v | _ | _ | _) <;> exact z
end
end PySem.XKw
/-! == and != of data with dicts in it. -/
namespace DV
open PySem PySem.Spec PyProof.Rows L2
def allT (f : D → D → Option Bool) : List D → List D → Option Bool
  | [], [] => some true
  | x :: xs, y :: ys => (match f x y, allT f xs ys with | some b, some c => some (b && c) | _, _ => none)
  | _, _ => none
def lookD (kvs : List (Key × D)) (k : Key) : Option D := (kvs.find? fun p => decide (p.1 = k)).map (·.2)
def dctT (f : D → D → Option Bool) (b : List (Key × D)) : List (Key × D) → Option Bool
  | [] => some true
  | (k, v) :: r => (match lookD b k with
    | none => (dctT f b r).map fun _ => false
    | some w => (match f v w, dctT f b r with | some x, some y => some (x && y) | _, _ => none))
theorem allT_get {f : D → D → Option Bool} : ∀ {xs ys : List D} {b : Bool}, allT f xs ys = some b → xs.length = ys.length ∧ (∀ (j : Nat) x y, xs[j]? = some x → ys[j]? = some y → ∃ c, f x y = some c) ∧ b = (List.range xs.length).all fun j => (f (xs.getD j .non) (ys.getD j .non)).getD false
  | [], [], b, h => by cases h; exact ⟨rfl, fun j x y e => by simp at e, rfl⟩
  | x :: xs, y :: ys, b, h => by
    unfold allT at h
    split at h
    · rename_i c d e1 e2
      cases h
      obtain ⟨h1, h2, h3⟩ := allT_get e2
      refine ⟨by simp [h1], fun j a b ha hb => ?_, ?_⟩
      · cases j with
        | zero => simp at ha hb; subst ha hb; exact ⟨c, e1⟩
        | succ j => exact h2 j a b (by simpa using ha) (by simpa using hb)
      · rw [h3, List.length_cons, List.range_succ_eq_map, List.all_cons, List.all_map]
        simp only [List.getD_cons_zero, e1, Option.getD_some]
        congr 1
    · cases h
  | [], _ :: _, b, h => by cases h
  | _ :: _, [], b, h => by cases h
theorem dctT_get {f : D → D → Option Bool} {b : List (Key × D)} : ∀ {a : List (Key × D)} {r : Bool}, dctT f b a = some r → (∀ k v w, (k, v) ∈ a → lookD b k = some w → ∃ c, f v w = some c) ∧ r = a.all fun p => (lookD b p.1).isSome && (((lookD b p.1).bind fun w => f p.2 w).getD false)
  | [], r, h => by cases h; exact ⟨(fun k v w e => by cases e), rfl⟩
  | (k, v) :: a, r, h => by
    unfold dctT at h
    split at h
    · rename_i e
      obtain ⟨c, hc, rfl⟩ := Option.map_eq_some_iff.mp h
      obtain ⟨h1, h2⟩ := dctT_get hc
      refine ⟨fun k' v' w hm hw => ?_, ?_⟩
      · rcases List.mem_cons.mp hm with e2 | hm
        · cases e2; rw [e] at hw; cases hw
        · exact h1 k' v' w hm hw
      · simp [e]
    · rename_i w e
      split at h
      · rename_i x y e1 e2
        cases h
        obtain ⟨h1, h2⟩ := dctT_get e2
        refine ⟨fun k' v' w' hm hw => ?_, ?_⟩
        · rcases List.mem_cons.mp hm with e3 | hm
          · cases e3; rw [e] at hw; cases hw; exact ⟨x, e1⟩
          · exact h1 k' v' w' hm hw
        · rw [List.all_cons, ← h2]
          simp [e, e1]
      · cases h
end DV
namespace PySem.SeqAt
open AutoSeq1 (wpAny_loadPart')
open MeetsSeq MeetsSeq2 MeetsSeq3 SeqRoads2
end PySem.SeqAt
namespace DV
open PySem PySem.Spec PyProof.Rows L2
open PySem.W (EqTree)
section
variable {X : Cx} {pins : List (Addr × Obj)} {σ : L2.St} {H Hb : Hp} {s : Shared} {al : List Addr}
theorem tree_data {k : Nat} {x y : V} {u v : Value} {d e : PyData} (I : Inv X pins σ H s) (h1 : Dp X.K H x d) (h2 : Dp X.K H y e) (c1 : d.canLay0 = true) (c2 : e.canLay0 = true) (hd : d.depth ≤ k) (ru : RelV x u) (rv : RelV y v) : EqTree X.prog X.w s k u v (PyData.eqv d e) := by
  obtain ⟨as, r1⟩ := Dp.reads I d x u h1 ru
  obtain ⟨bs, r2⟩ := Dp.reads I e y v h2 rv
  exact .leaf fun A hA => SeqAt.eqAt_reads d e A s u v _ _ r1 r2 c1 c2 (by omega)
end
section
variable {X : Cx}
theorem zip_back {kvs : List (Key × D)} {us : List (Key × V)} (h : kvs.map (·.1) = us.map (·.1)) : kvs = (us.map (·.1)).zip (kvs.map (·.2)) := by
  rw [← h]
  clear h
  induction kvs with
  | nil => rfl
  | cons p r ih => rw [List.map_cons, List.map_cons, List.zip_cons_cons, ← ih]
variable {W : WX} {a b : Expr} {pos : Pos} {fa fb : DTE}
end
end DV
/-! == by an own __eq__ of a class. -/
namespace DV
open PySem PySem.Spec PyProof.Rows L2
end DV
/-! != by an own __eq__ of a class that has no own __ne__. -/
namespace DV
open PySem PySem.Spec PyProof.Rows L2 PySem.W Builtin
end DV
/-! == of a dict and a value of another kind. -/
namespace DV
open PySem PySem.Spec PyProof.Rows PySem.Calls PyProof.V Builtin SeqAt
section
variable {prog : Program} {w : World} {A : Around} {E : Value → Shared → Prop} {s : Shared}
def IsDct (h : Heap) (a : Addr) : Prop := ∃ o es ep, h.get? a = some o ∧ o.cls = .type "dict" ∧ o.data = .dict es ep
theorem IsDct.ty {a : Addr} (x : IsDct s.heap a) : s.TypeIs (.ref a) "dict" := let ⟨o, _, _, ho, hc, _⟩ := x; ⟨o, ho, hc⟩
theorem dict_declines {a : Addr} {y : Value} {T : String} {Q : Value → Shared → Prop} (da : s.TypeIs (.ref a) "dict") (hy : s.TypeIs y T) (hsub : isSubtype (.type T) (.type "dict") = pure false) (hq : Q .notImplemented s) :
    wpAny (model prog w) A (call (.builtin "dict.__eq__") [.ref a, y]) Q E s := by
  refine wpAny_call_entry PySem.F.slot_dict_eq da PySem.F.entry_dict_eq ?_ (PySem.F.args_dict_eq_2 _ _)
  show wpAny _ _ (Builtin.Dict.dictSlotArgs "__eq__" ⟨[.ref a, y], []⟩ >>= _) _ _ s
  refine wpAny_bind ?_
  unfold Builtin.Dict.dictSlotArgs
  refine wpAny_bind (wpAny_notOrdered_dict da ?_)
  show wpAny _ _ (pure (Value.ref a, y)) _ _ s
  refine wpAny_pure ?_
  refine wpAny_bind (wpAny_isInstance (T := T) hy hsub ?_)
  simp only [Bool.not_false, if_true]
  refine wpAny_bind (wpAny_rule (wpAny_pure ?_))
  first | exact ⟨_, rfl, hq⟩ | exact hq
theorem int_eq_declines_dict (b : Int) (u : Tok) (l : Addr) (es : Array DictEntry) (ep : Nat) (dd : Option Addr) (sl : Array (Option Value)) :
    Meets (Builtin.«int.__eq__» ⟨[.int b u, .ref l], []⟩) (fun _ R s => s.heap.get? l = some { cls := .type "dict", dict := dd, data := .dict es ep, slots := sl } ∧ R (.ok (.ret .notImplemented)) s) :=
  .of_wp fun prog w A R s h => by obtain ⟨hp, g, d, tk, os⟩ := s; obtain ⟨hl, h⟩ := h; wp_walk using wpAny_loadPart' hl, wpAny_load hl; exact ⟨_, rfl, h⟩
theorem bool_eq_declines_dict (b : Bool) (l : Addr) (es : Array DictEntry) (ep : Nat) (dd : Option Addr) (sl : Array (Option Value)) :
    Meets (Builtin.«int.__eq__» ⟨[.bool b, .ref l], []⟩) (fun _ R s => s.heap.get? l = some { cls := .type "dict", dict := dd, data := .dict es ep, slots := sl } ∧ R (.ok (.ret .notImplemented)) s) :=
  .of_wp fun prog w A R s h => by obtain ⟨hp, g, d, tk, os⟩ := s; obtain ⟨hl, h⟩ := h; wp_walk using wpAny_loadPart' hl, wpAny_load hl; exact ⟨_, rfl, h⟩
theorem str_eq_declines_dict (b : Str) (u : Tok) (l : Addr) (es : Array DictEntry) (ep : Nat) (dd : Option Addr) (sl : Array (Option Value)) :
    Meets (Builtin.«str.__eq__» ⟨[.str b u, .ref l], []⟩) (fun _ R s => s.heap.get? l = some { cls := .type "dict", dict := dd, data := .dict es ep, slots := sl } ∧ R (.ok (.ret .notImplemented)) s) :=
  .of_wp fun prog w A R s h => by obtain ⟨hp, g, d, tk, os⟩ := s; obtain ⟨hl, h⟩ := h; wp_walk using wpAny_loadPart' hl, wpAny_load hl; exact ⟨_, rfl, h⟩
theorem list_eq_declines_dict (a : Addr) (items : Array Value) (n : Nat) (da : Option Addr) (sa : Array (Option Value)) (l : Addr) (es : Array DictEntry) (ep : Nat) (dd : Option Addr) (sl : Array (Option Value)) :
    Meets (Builtin.«list.__eq__» ⟨[.ref a, .ref l], []⟩) (fun _ R s => s.heap.get? a = some { cls := .type "list", dict := da, data := .seq items n, slots := sa } ∧ s.heap.get? l = some { cls := .type "dict", dict := dd, data := .dict es ep, slots := sl } ∧ R (.ok (.ret .notImplemented)) s) :=
  .of_wp fun prog w A R s h => by obtain ⟨hp, g, d, tk, os⟩ := s; obtain ⟨ha, hl, h⟩ := h; have f1 := F.sub_dict_list; wp_walk using wpAny_loadPart' ha, wpAny_loadPart' hl; exact ⟨_, rfl, h⟩
theorem tuple_eq_declines_dict (a : Addr) (items : Array Value) (n : Nat) (da : Option Addr) (sa : Array (Option Value)) (l : Addr) (es : Array DictEntry) (ep : Nat) (dd : Option Addr) (sl : Array (Option Value)) :
    Meets (Builtin.«tuple.__eq__» ⟨[.ref a, .ref l], []⟩) (fun _ R s => s.heap.get? a = some { cls := .type "tuple", dict := da, data := .seq items n, slots := sa } ∧ s.heap.get? l = some { cls := .type "dict", dict := dd, data := .dict es ep, slots := sl } ∧ R (.ok (.ret .notImplemented)) s) :=
  .of_wp fun prog w A R s h => by obtain ⟨hp, g, d, tk, os⟩ := s; obtain ⟨ha, hl, h⟩ := h; have f1 := F.sub_dict_tuple; wp_walk using wpAny_loadPart' ha, wpAny_loadPart' hl; exact ⟨_, rfl, h⟩
theorem RcAt.dict_none {a : Addr} (db : IsDct s.heap a) (hu : A.units < cLine) : RcAt A s (.ref a) .none false := fun prog w E Q h => by
  have da := db.ty
  obtain ⟨⟨cls, dd, dt, sl⟩, es, ep, ho, hc, hdt⟩ := id db
  simp only at hc hdt
  subst hc hdt
  exact rc_eq_decline_or (k := false) ⟨_, ho, rfl⟩ rfl (by decide) F.sub_NoneType_dict F.slot_dict_eq F.slot_NoneType_eq_refl
    (fun _ hq => dict_declines da rfl F.sub_NoneType_dict hq)
    (fun _ hq => call_gives F.slot_NoneType_eq_refl rfl F.entry_NoneType_eq (F.args_NoneType_eq_2 _ _) (NoneType___eq___none_ref_0 a) hq)
    (fun _ hq => wpAny_of_eq (rfl : isSame (.ref a) .none = pure false) hq) (.inr hu) h
theorem EqAt.dict_none {a : Addr} (db : IsDct s.heap a) (hu : A.units < cLine) : EqAt A s (.ref a) .none false := fun prog w E Q h => by
  unfold eqBool
  refine wpAny_holding ?_
  refine wpAny_ite_split (fun hab => absurd (eq_of_beq hab) nofun) (fun _ => ?_)
  exact wpAny_bind (RcAt.dict_none db hu prog w E _ (wpAny_truthy_bool h))
theorem RcAt.none_dict {a : Addr} (db : IsDct s.heap a) (hu : A.units < cLine) : RcAt A s .none (.ref a) false := fun prog w E Q h => by
  have da := db.ty
  obtain ⟨⟨cls, dd, dt, sl⟩, es, ep, ho, hc, hdt⟩ := id db
  simp only at hc hdt
  subst hc hdt
  exact rc_eq_decline_or (k := false) rfl ⟨_, ho, rfl⟩ (by decide) F.sub_dict_NoneType F.slot_NoneType_eq F.slot_dict_eq_refl
    (fun _ hq => call_gives F.slot_NoneType_eq rfl F.entry_NoneType_eq (F.args_NoneType_eq_2 _ _) (NoneType___eq___none_ref_0 a) hq)
    (fun _ hq => dict_declines da rfl F.sub_NoneType_dict hq)
    (fun _ hq => wpAny_of_eq (rfl : isSame .none (.ref a) = pure false) hq) (.inr hu) h
theorem EqAt.none_dict {a : Addr} (db : IsDct s.heap a) (hu : A.units < cLine) : EqAt A s .none (.ref a) false := fun prog w E Q h => by
  unfold eqBool
  refine wpAny_holding ?_
  refine wpAny_ite_split (fun hab => absurd (eq_of_beq hab) nofun) (fun _ => ?_)
  exact wpAny_bind (RcAt.none_dict db hu prog w E _ (wpAny_truthy_bool h))
theorem RcAt.dict_bool (b : Bool) {a : Addr} (db : IsDct s.heap a) (hu : A.units < cLine) : RcAt A s (.ref a) (.bool b) false := fun prog w E Q h => by
  have da := db.ty
  obtain ⟨⟨cls, dd, dt, sl⟩, es, ep, ho, hc, hdt⟩ := id db
  simp only at hc hdt
  subst hc hdt
  exact rc_eq_decline_or (k := false) ⟨_, ho, rfl⟩ rfl (by decide) F.sub_bool_dict F.slot_dict_eq F.slot_bool_eq_refl
    (fun _ hq => dict_declines da rfl F.sub_bool_dict hq)
    (fun _ hq => call_meets F.slot_bool_eq_refl rfl F.entry_int_eq (F.args_int_eq_2 _ _) (bool_eq_declines_dict b a es ep dd sl) ⟨ho, hq⟩)
    (fun _ hq => wpAny_of_eq (rfl : isSame (.ref a) (.bool b) = pure false) hq) (.inr hu) h
theorem EqAt.dict_bool (b : Bool) {a : Addr} (db : IsDct s.heap a) (hu : A.units < cLine) : EqAt A s (.ref a) (.bool b) false := fun prog w E Q h => by
  unfold eqBool
  refine wpAny_holding ?_
  refine wpAny_ite_split (fun hab => absurd (eq_of_beq hab) nofun) (fun _ => ?_)
  exact wpAny_bind (RcAt.dict_bool b db hu prog w E _ (wpAny_truthy_bool h))
theorem RcAt.bool_dict (b : Bool) {a : Addr} (db : IsDct s.heap a) (hu : A.units < cLine) : RcAt A s (.bool b) (.ref a) false := fun prog w E Q h => by
  have da := db.ty
  obtain ⟨⟨cls, dd, dt, sl⟩, es, ep, ho, hc, hdt⟩ := id db
  simp only at hc hdt
  subst hc hdt
  exact rc_eq_decline_or (k := false) rfl ⟨_, ho, rfl⟩ (by decide) F.sub_dict_bool F.slot_bool_eq F.slot_dict_eq_refl
    (fun _ hq => call_meets F.slot_bool_eq rfl F.entry_int_eq (F.args_int_eq_2 _ _) (bool_eq_declines_dict b a es ep dd sl) ⟨ho, hq⟩)
    (fun _ hq => dict_declines da rfl F.sub_bool_dict hq)
    (fun _ hq => wpAny_of_eq (rfl : isSame (.bool b) (.ref a) = pure false) hq) (.inr hu) h
theorem EqAt.bool_dict (b : Bool) {a : Addr} (db : IsDct s.heap a) (hu : A.units < cLine) : EqAt A s (.bool b) (.ref a) false := fun prog w E Q h => by
  unfold eqBool
  refine wpAny_holding ?_
  refine wpAny_ite_split (fun hab => absurd (eq_of_beq hab) nofun) (fun _ => ?_)
  exact wpAny_bind (RcAt.bool_dict b db hu prog w E _ (wpAny_truthy_bool h))
theorem RcAt.dict_int (b : Int) (u : Tok) {a : Addr} (db : IsDct s.heap a) (hu : A.units < cLine) : RcAt A s (.ref a) (.int b u) false := fun prog w E Q h => by
  have da := db.ty
  obtain ⟨⟨cls, dd, dt, sl⟩, es, ep, ho, hc, hdt⟩ := id db
  simp only at hc hdt
  subst hc hdt
  exact rc_eq_decline_or (k := false) ⟨_, ho, rfl⟩ (typeIs_int s b u) (by decide) F.sub_int_dict F.slot_dict_eq F.slot_int_eq_refl
    (fun _ hq => dict_declines da (typeIs_int s b u) F.sub_int_dict hq)
    (fun _ hq => call_meets F.slot_int_eq_refl (typeIs_int s b u) F.entry_int_eq (F.args_int_eq_2 _ _) (int_eq_declines_dict b u a es ep dd sl) ⟨ho, hq⟩)
    (fun _ hq => wpAny_of_eq (rfl : isSame (.ref a) (.int b u) = pure false) hq) (.inr hu) h
theorem EqAt.dict_int (b : Int) (u : Tok) {a : Addr} (db : IsDct s.heap a) (hu : A.units < cLine) : EqAt A s (.ref a) (.int b u) false := fun prog w E Q h => by
  unfold eqBool
  refine wpAny_holding ?_
  refine wpAny_ite_split (fun hab => absurd (eq_of_beq hab) nofun) (fun _ => ?_)
  exact wpAny_bind (RcAt.dict_int b u db hu prog w E _ (wpAny_truthy_bool h))
theorem RcAt.int_dict (b : Int) (u : Tok) {a : Addr} (db : IsDct s.heap a) (hu : A.units < cLine) : RcAt A s (.int b u) (.ref a) false := fun prog w E Q h => by
  have da := db.ty
  obtain ⟨⟨cls, dd, dt, sl⟩, es, ep, ho, hc, hdt⟩ := id db
  simp only at hc hdt
  subst hc hdt
  exact rc_eq_decline_or (k := false) (typeIs_int s b u) ⟨_, ho, rfl⟩ (by decide) F.sub_dict_int F.slot_int_eq F.slot_dict_eq_refl
    (fun _ hq => call_meets F.slot_int_eq (typeIs_int s b u) F.entry_int_eq (F.args_int_eq_2 _ _) (int_eq_declines_dict b u a es ep dd sl) ⟨ho, hq⟩)
    (fun _ hq => dict_declines da (typeIs_int s b u) F.sub_int_dict hq)
    (fun _ hq => wpAny_of_eq (rfl : isSame (.int b u) (.ref a) = pure false) hq) (.inr hu) h
theorem EqAt.int_dict (b : Int) (u : Tok) {a : Addr} (db : IsDct s.heap a) (hu : A.units < cLine) : EqAt A s (.int b u) (.ref a) false := fun prog w E Q h => by
  unfold eqBool
  refine wpAny_holding ?_
  refine wpAny_ite_split (fun hab => absurd (eq_of_beq hab) nofun) (fun _ => ?_)
  exact wpAny_bind (RcAt.int_dict b u db hu prog w E _ (wpAny_truthy_bool h))
theorem RcAt.dict_str (b : Str) (u : Tok) {a : Addr} (db : IsDct s.heap a) (hu : A.units < cLine) : RcAt A s (.ref a) (.str b u) false := fun prog w E Q h => by
  have da := db.ty
  obtain ⟨⟨cls, dd, dt, sl⟩, es, ep, ho, hc, hdt⟩ := id db
  simp only at hc hdt
  subst hc hdt
  exact rc_eq_decline_or (k := false) ⟨_, ho, rfl⟩ (typeIs_str s b u) (by decide) F.sub_str_dict F.slot_dict_eq F.slot_str_eq_refl
    (fun _ hq => dict_declines da (typeIs_str s b u) F.sub_str_dict hq)
    (fun _ hq => call_meets F.slot_str_eq_refl (typeIs_str s b u) F.entry_str_eq (F.args_str_eq_2 _ _) (str_eq_declines_dict b u a es ep dd sl) ⟨ho, hq⟩)
    (fun _ hq => wpAny_of_eq (rfl : isSame (.ref a) (.str b u) = pure false) hq) (.inr hu) h
theorem EqAt.dict_str (b : Str) (u : Tok) {a : Addr} (db : IsDct s.heap a) (hu : A.units < cLine) : EqAt A s (.ref a) (.str b u) false := fun prog w E Q h => by
  unfold eqBool
  refine wpAny_holding ?_
  refine wpAny_ite_split (fun hab => absurd (eq_of_beq hab) nofun) (fun _ => ?_)
  exact wpAny_bind (RcAt.dict_str b u db hu prog w E _ (wpAny_truthy_bool h))
theorem RcAt.str_dict (b : Str) (u : Tok) {a : Addr} (db : IsDct s.heap a) (hu : A.units < cLine) : RcAt A s (.str b u) (.ref a) false := fun prog w E Q h => by
  have da := db.ty
  obtain ⟨⟨cls, dd, dt, sl⟩, es, ep, ho, hc, hdt⟩ := id db
  simp only at hc hdt
  subst hc hdt
  exact rc_eq_decline_or (k := false) (typeIs_str s b u) ⟨_, ho, rfl⟩ (by decide) F.sub_dict_str F.slot_str_eq F.slot_dict_eq_refl
    (fun _ hq => call_meets F.slot_str_eq (typeIs_str s b u) F.entry_str_eq (F.args_str_eq_2 _ _) (str_eq_declines_dict b u a es ep dd sl) ⟨ho, hq⟩)
    (fun _ hq => dict_declines da (typeIs_str s b u) F.sub_str_dict hq)
    (fun _ hq => wpAny_of_eq (rfl : isSame (.str b u) (.ref a) = pure false) hq) (.inr hu) h
theorem EqAt.str_dict (b : Str) (u : Tok) {a : Addr} (db : IsDct s.heap a) (hu : A.units < cLine) : EqAt A s (.str b u) (.ref a) false := fun prog w E Q h => by
  unfold eqBool
  refine wpAny_holding ?_
  refine wpAny_ite_split (fun hab => absurd (eq_of_beq hab) nofun) (fun _ => ?_)
  exact wpAny_bind (RcAt.str_dict b u db hu prog w E _ (wpAny_truthy_bool h))
theorem RcAt.dict_list {l : Addr} {items : Array Value} (hl : s.heap.IsList l items) {a : Addr} (db : IsDct s.heap a) (hu : A.units < cLine) : RcAt A s (.ref a) (.ref l) false := fun prog w E Q h => by
  have da := db.ty
  obtain ⟨⟨cls, dd, dt, sl⟩, es, ep, ho, hc, hdt⟩ := id db
  simp only at hc hdt
  subst hc hdt
  obtain ⟨⟨cls2, dd2, data2, sl2⟩, ho2, hc2, n2, hd2⟩ := id hl
  simp only at hc2 hd2
  subst hc2 hd2
  have hne : a ≠ l := fun e => by subst e; rw [ho] at ho2; have z := congrArg (Option.map Obj.cls) ho2; simp at z
  exact rc_eq_decline_or (k := false) ⟨_, ho, rfl⟩ ⟨_, ho2, rfl⟩ (by decide) F.sub_list_dict F.slot_dict_eq F.slot_list_eq_refl
    (fun _ hq => dict_declines da ⟨_, ho2, rfl⟩ F.sub_list_dict hq)
    (fun _ hq => call_meets F.slot_list_eq_refl ⟨_, ho2, rfl⟩ F.entry_list_eq (F.args_list_eq_2 _ _) (list_eq_declines_dict l items n2 dd2 sl2 a es ep dd sl) ⟨ho2, ho, hq⟩)
    (fun _ hq => wpAny_isSame_ref_other hne ho ho2 (by simp) hq) (.inr hu) h
theorem ne_dict_list {l : Addr} {items : Array Value} (hl : s.heap.IsList l items) {a : Addr} (db : IsDct s.heap a) : a ≠ l := by
  obtain ⟨o, es, ep, ho, hc, _⟩ := db
  obtain ⟨o2, ho2, hc2, _⟩ := hl
  intro e; subst e; rw [ho] at ho2; cases ho2; rw [hc] at hc2; simp at hc2
theorem EqAt.dict_list {l : Addr} {items : Array Value} (hl : s.heap.IsList l items) {a : Addr} (db : IsDct s.heap a) (hu : A.units < cLine) : EqAt A s (.ref a) (.ref l) false := .of_refs (ne_dict_list hl db) (RcAt.dict_list hl db hu)
theorem RcAt.list_dict {l : Addr} {items : Array Value} (hl : s.heap.IsList l items) {a : Addr} (db : IsDct s.heap a) (hu : A.units < cLine) : RcAt A s (.ref l) (.ref a) false := fun prog w E Q h => by
  have da := db.ty
  obtain ⟨⟨cls, dd, dt, sl⟩, es, ep, ho, hc, hdt⟩ := id db
  simp only at hc hdt
  subst hc hdt
  obtain ⟨⟨cls2, dd2, data2, sl2⟩, ho2, hc2, n2, hd2⟩ := id hl
  simp only at hc2 hd2
  subst hc2 hd2
  have hne : a ≠ l := fun e => by subst e; rw [ho] at ho2; have z := congrArg (Option.map Obj.cls) ho2; simp at z
  exact rc_eq_decline_or (k := false) ⟨_, ho2, rfl⟩ ⟨_, ho, rfl⟩ (by decide) F.sub_dict_list F.slot_list_eq F.slot_dict_eq_refl
    (fun _ hq => call_meets F.slot_list_eq ⟨_, ho2, rfl⟩ F.entry_list_eq (F.args_list_eq_2 _ _) (list_eq_declines_dict l items n2 dd2 sl2 a es ep dd sl) ⟨ho2, ho, hq⟩)
    (fun _ hq => dict_declines da ⟨_, ho2, rfl⟩ F.sub_list_dict hq)
    (fun _ hq => wpAny_isSame_ref_other' (Ne.symm hne) ho2 ho (by simp) hq) (.inr hu) h
theorem EqAt.list_dict {l : Addr} {items : Array Value} (hl : s.heap.IsList l items) {a : Addr} (db : IsDct s.heap a) (hu : A.units < cLine) : EqAt A s (.ref l) (.ref a) false := .of_refs (Ne.symm (ne_dict_list hl db)) (RcAt.list_dict hl db hu)
theorem RcAt.dict_tuple {l : Addr} {items : Array Value} (hl : s.heap.IsTuple l items) {a : Addr} (db : IsDct s.heap a) (hu : A.units < cLine) : RcAt A s (.ref a) (.ref l) false := fun prog w E Q h => by
  have da := db.ty
  obtain ⟨⟨cls, dd, dt, sl⟩, es, ep, ho, hc, hdt⟩ := id db
  simp only at hc hdt
  subst hc hdt
  obtain ⟨⟨cls2, dd2, data2, sl2⟩, ho2, hc2, n2, hd2⟩ := id hl
  simp only at hc2 hd2
  subst hc2 hd2
  have hne : a ≠ l := fun e => by subst e; rw [ho] at ho2; have z := congrArg (Option.map Obj.cls) ho2; simp at z
  exact rc_eq_decline_or (k := false) ⟨_, ho, rfl⟩ ⟨_, ho2, rfl⟩ (by decide) F.sub_tuple_dict F.slot_dict_eq F.slot_tuple_eq_refl
    (fun _ hq => dict_declines da ⟨_, ho2, rfl⟩ F.sub_tuple_dict hq)
    (fun _ hq => call_meets F.slot_tuple_eq_refl ⟨_, ho2, rfl⟩ F.entry_tuple_eq (F.args_tuple_eq_2 _ _) (tuple_eq_declines_dict l items n2 dd2 sl2 a es ep dd sl) ⟨ho2, ho, hq⟩)
    (fun _ hq => wpAny_isSame_ref_other hne ho ho2 (by simp) hq) (.inr hu) h
theorem ne_dict_tuple {l : Addr} {items : Array Value} (hl : s.heap.IsTuple l items) {a : Addr} (db : IsDct s.heap a) : a ≠ l := by
  obtain ⟨o, es, ep, ho, hc, _⟩ := db
  obtain ⟨o2, ho2, hc2, _⟩ := hl
  intro e; subst e; rw [ho] at ho2; cases ho2; rw [hc] at hc2; simp at hc2
theorem EqAt.dict_tuple {l : Addr} {items : Array Value} (hl : s.heap.IsTuple l items) {a : Addr} (db : IsDct s.heap a) (hu : A.units < cLine) : EqAt A s (.ref a) (.ref l) false := .of_refs (ne_dict_tuple hl db) (RcAt.dict_tuple hl db hu)
theorem RcAt.tuple_dict {l : Addr} {items : Array Value} (hl : s.heap.IsTuple l items) {a : Addr} (db : IsDct s.heap a) (hu : A.units < cLine) : RcAt A s (.ref l) (.ref a) false := fun prog w E Q h => by
  have da := db.ty
  obtain ⟨⟨cls, dd, dt, sl⟩, es, ep, ho, hc, hdt⟩ := id db
  simp only at hc hdt
  subst hc hdt
  obtain ⟨⟨cls2, dd2, data2, sl2⟩, ho2, hc2, n2, hd2⟩ := id hl
  simp only at hc2 hd2
  subst hc2 hd2
  have hne : a ≠ l := fun e => by subst e; rw [ho] at ho2; have z := congrArg (Option.map Obj.cls) ho2; simp at z
  exact rc_eq_decline_or (k := false) ⟨_, ho2, rfl⟩ ⟨_, ho, rfl⟩ (by decide) F.sub_dict_tuple F.slot_tuple_eq F.slot_dict_eq_refl
    (fun _ hq => call_meets F.slot_tuple_eq ⟨_, ho2, rfl⟩ F.entry_tuple_eq (F.args_tuple_eq_2 _ _) (tuple_eq_declines_dict l items n2 dd2 sl2 a es ep dd sl) ⟨ho2, ho, hq⟩)
    (fun _ hq => dict_declines da ⟨_, ho2, rfl⟩ F.sub_tuple_dict hq)
    (fun _ hq => wpAny_isSame_ref_other' (Ne.symm hne) ho2 ho (by simp) hq) (.inr hu) h
theorem EqAt.tuple_dict {l : Addr} {items : Array Value} (hl : s.heap.IsTuple l items) {a : Addr} (db : IsDct s.heap a) (hu : A.units < cLine) : EqAt A s (.ref l) (.ref a) false := .of_refs (Ne.symm (ne_dict_tuple hl db)) (RcAt.tuple_dict hl db hu)
end
end DV
/-! == of any data, looking through cells; values of unlike kinds and lengths. -/
namespace DV
open PySem PySem.Spec PyProof.Rows L2
open PySem.W (EqTree)
inductive Frs (R : V → D → Prop) : List V → List D → Prop
  | nil : Frs R [] []
  | cons {v : V} {d : D} {vs : List V} {ds : List D} : R v d → Frs R vs ds → Frs R (v :: vs) (d :: ds)
section
variable {R : V → D → Prop}
theorem Frs.length : ∀ {vs : List V} {ds : List D}, Frs R vs ds → vs.length = ds.length
  | _, _, .nil => rfl
  | _, _, .cons _ t => by simp [Frs.length t]
theorem Frs.get : ∀ {vs : List V} {ds : List D} {i : Nat} {d : D}, Frs R vs ds → ds[i]? = some d → ∃ v, vs[i]? = some v ∧ R v d
  | _, _, _, _, .nil, e => by simp at e
  | _, _, 0, _, .cons h _, e => by simp at e; subst e; exact ⟨_, rfl, h⟩
  | _, _, i + 1, d, .cons _ t, e => by
    obtain ⟨v, h1, h2⟩ := Frs.get t (i := i) (d := d) (by simpa using e)
    exact ⟨v, by simpa using h1, h2⟩
theorem Frs.mono {R' : V → D → Prop} (f : ∀ v d, R v d → R' v d) : ∀ {vs : List V} {ds : List D}, Frs R vs ds → Frs R' vs ds
  | _, _, .nil => .nil
  | _, _, .cons h t => .cons (f _ _ h) (Frs.mono f t)
theorem Frs.fun_ (f : ∀ v d e, R v d → R v e → d = e) : ∀ {vs : List V} {ds es : List D}, Frs R vs ds → Frs R vs es → ds = es
  | _, _, _, .nil, .nil => rfl
  | _, _, _, .cons h t, .cons h' t' => by rw [f _ _ _ h h', Frs.fun_ f t t']
end
def Fr (K : PySem.W.Frag) (H : Hp) : Nat → V → D → Prop
  | 0, v, d => match d with
    | .non => v = .non
    | .bl b => v = .bl b
    | .int i => v = .int i
    | .str z => v = .str z
    | _ => False
  | k + 1, v, d => match d with
    | .non => v = .non
    | .bl b => v = .bl b
    | .int i => v = .int i
    | .str z => v = .str z
    | .lst ds => ∃ a vs, v = .ref a ∧ H a = some (.lst vs) ∧ Frs (Fr K H k) vs ds
    | .tup ds => ∃ a vs, v = .ref a ∧ H a = some (.tup vs) ∧ Frs (Fr K H k) vs ds
    | .dct kvs => ∃ a us, v = .ref a ∧ Rd H a (.dK us) ∧ kvs.map (·.1) = us.map (·.1) ∧ Frs (Fr K H k) (us.map (·.2)) (kvs.map (·.2))
    | _ => False
def frz (μ : Mu) : Nat → D → D
  | 0, d => d
  | k + 1, d => match lk μ d with
    | .lst ds => .lst (ds.map (frz μ k))
    | .tup ds => .tup (ds.map (frz μ k))
    | .dct kvs => .dct (kvs.map fun p => (p.1, frz μ k p.2))
    | e => e
def goodF : Nat → D → Bool
  | _, .non => true
  | _, .bl _ => true
  | _, .int _ => true
  | _, .str _ => true
  | k + 1, .lst ds => ds.all (goodF k)
  | k + 1, .tup ds => ds.all (goodF k)
  | k + 1, .dct kvs => kvs.all fun p => goodF k p.2
  | _, _ => false
theorem rd_fun {H : Hp} {a : Addr} {us us' : List (Key × V)} (h : Rd H a (.dK us)) (h' : Rd H a (.dK us')) : us = us' := rd_inj h h'
theorem Fr.fun_ {K : PySem.W.Frag} {H : Hp} : ∀ (k : Nat) (v : V) (d e : D), Fr K H k v d → Fr K H k v e → d = e := by
  intro k
  induction k with
  | zero =>
    intro v d e h1 h2
    unfold Fr at h1 h2
    cases d <;> cases e <;> simp only at h1 h2 <;> first | exact h1.elim | exact h2.elim | (subst h1; cases h2; done) | (subst h1; cases h2; rfl)
  | succ k ih =>
    intro v d e h1 h2
    unfold Fr at h1 h2
    have inj : ∀ {a a' : Addr} {o o' : HO}, V.ref a = V.ref a' → H a = some o → H a' = some o' → o = o' := fun e h h' => by cases e; rw [h] at h'; cases h'; rfl
    have nrd : ∀ {a a' : Addr} {o : HO} {us : List (Key × V)}, V.ref a = V.ref a' → H a = some o → Rd H a' (.dK us) → (∀ x y, o ≠ .frz x y) → o = .dK us := fun e h h' hn => by
      cases e
      rcases h' with h' | ⟨o', h'⟩
      · rw [h] at h'; cases h'; rfl
      · rw [h] at h'; cases h'; exact absurd rfl (hn _ _)
    cases d <;> cases e <;> simp only at h1 h2 <;> first
      | exact h1.elim
      | exact h2.elim
      | (subst h1; cases h2; done)
      | (subst h1; cases h2; rfl)
      | (subst h1; obtain ⟨a, vs, e0, e1, t1⟩ := h2; cases e0; done)
      | (subst h1; obtain ⟨a, us, e0, e1, k1, t1⟩ := h2; cases e0; done)
      | (subst h2; obtain ⟨a, vs, e0, e1, t1⟩ := h1; cases e0; done)
      | (subst h2; obtain ⟨a, us, e0, e1, k1, t1⟩ := h1; cases e0; done)
      | (obtain ⟨a, vs, rfl, e1, t1⟩ := h1; obtain ⟨a', vs', e0, e2, t2⟩ := h2; have := inj e0 e1 e2; cases this; rw [Frs.fun_ ih t1 t2]; done)
      | (obtain ⟨a, vs, rfl, e1, t1⟩ := h1; obtain ⟨a', vs', e0, e2, t2⟩ := h2; have := inj e0 e1 e2; cases this; done)
      | (obtain ⟨a, vs, rfl, e1, t1⟩ := h1; obtain ⟨a', us, e0, e2, k2, t2⟩ := h2; have := nrd e0 e1 e2 (fun _ _ z => by cases z); cases this; done)
      | (obtain ⟨a, us, rfl, e2, k2, t2⟩ := h1; obtain ⟨a', vs, e0, e1, t1⟩ := h2; have := nrd e0.symm e1 e2 (fun _ _ z => by cases z); cases this; done)
      | (obtain ⟨a, us, rfl, e1, k1, t1⟩ := h1
         obtain ⟨a', us', e0, e2, k2, t2⟩ := h2
         cases e0
         have := rd_fun e1 e2
         subst this
         have t := Frs.fun_ ih t1 t2
         rw [zip_back k1, zip_back k2, t])
theorem dpall_of {K : PySem.W.Frag} {H : Hp} {R : V → D → Prop} {g : D → PyData} {p : D → Bool} (f : ∀ v d, R v d → p d = true → Dp K H v (g d)) : ∀ {vs : List V} {ds : List D}, Frs R vs ds → ds.all p = true → DpAll K H vs (ds.map g)
  | _, _, .nil, _ => .nil
  | _, _, .cons h t, ha => by
    simp only [List.all_cons, Bool.and_eq_true] at ha
    exact .cons (f _ _ h ha.1) (dpall_of f t ha.2)
theorem Fr.dp {K : PySem.W.Frag} {H : Hp} : ∀ (k : Nat) (v : V) (d : D), Fr K H k v d → D.okn k d = true → Dp K H v (D.py k d) := by
  intro k
  induction k with
  | zero =>
    intro v d h ok
    unfold Fr at h
    cases d <;> simp only at h <;> first | exact h.elim | (subst h; constructor)
  | succ k ih =>
    intro v d h ok
    unfold Fr at h
    cases d <;> simp only at h <;> first
      | exact h.elim
      | (subst h; constructor)
      | (simp [D.okn] at ok; done)
      | (obtain ⟨a, vs, rfl, e, t⟩ := h; exact .lst (SqL.of e) (dpall_of ih t ok))
      | (obtain ⟨a, vs, rfl, e, t⟩ := h; exact .tup (SqT.of e) (dpall_of ih t ok))
theorem fr_frz {K : PySem.W.Frag} {n : Now} {μ : Mu} (s : SR0 K n μ) : ∀ (k : Nat) (v : V) (d : D), Rep K n.Hb n.al v d → goodF k (frz μ k d) = true → Fr K n.H k v (frz μ k d) := by
  intro k
  induction k with
  | zero =>
    intro v d r h
    unfold frz at h ⊢
    unfold Fr
    cases r <;> simp [goodF] at h <;> rfl
  | succ k ih =>
    intro v d r h
    have all : ∀ {vs : List V} {ds : List D}, Reps K n.Hb n.al vs ds → (ds.map (frz μ k)).all (goodF k) = true → Frs (Fr K n.H k) vs (ds.map (frz μ k)) := by
      intro vs
      induction vs with
      | nil => intro ds t _; cases t; exact .nil
      | cons v vs ihv =>
        intro ds t ha
        cases t with
        | cons t0 t1 =>
          simp only [List.map_cons, List.all_cons, Bool.and_eq_true] at ha
          exact .cons (ih _ _ t0 ha.1) (ihv t1 ha.2)
    cases e : lk μ d with
    | lst ds =>
      obtain ⟨a, vs, rfl, h1, h2⟩ := see_lst s r e
      have ef : frz μ (k + 1) d = .lst (ds.map (frz μ k)) := by rw [show frz μ (k + 1) d = (match lk μ d with | .lst ds => D.lst (ds.map (frz μ k)) | .tup ds => .tup (ds.map (frz μ k)) | .dct kvs => .dct (kvs.map fun p => (p.1, frz μ k p.2)) | e => e) from rfl, e]
      rw [ef] at h ⊢
      exact ⟨a, vs, rfl, h1, all h2 h⟩
    | tup ds =>
      obtain ⟨a, vs, rfl, h1, _, h2⟩ := see_tup s r e
      have ef : frz μ (k + 1) d = .tup (ds.map (frz μ k)) := by rw [show frz μ (k + 1) d = (match lk μ d with | .lst ds => D.lst (ds.map (frz μ k)) | .tup ds => .tup (ds.map (frz μ k)) | .dct kvs => .dct (kvs.map fun p => (p.1, frz μ k p.2)) | e => e) from rfl, e]
      rw [ef] at h ⊢
      exact ⟨a, vs, rfl, h1, all h2 h⟩
    | dct kvs =>
      obtain ⟨a, us, rfl, h1, h2, h3⟩ := see_dct s r e
      have ef : frz μ (k + 1) d = .dct (kvs.map fun p => (p.1, frz μ k p.2)) := by rw [show frz μ (k + 1) d = (match lk μ d with | .lst ds => D.lst (ds.map (frz μ k)) | .tup ds => .tup (ds.map (frz μ k)) | .dct kvs => .dct (kvs.map fun p => (p.1, frz μ k p.2)) | e => e) from rfl, e]
      rw [ef] at h ⊢
      refine ⟨a, us, rfl, h1, by rw [List.map_map, ← h2]; rfl, ?_⟩
      have em : (kvs.map fun p => (p.1, frz μ k p.2)).map (·.2) = (kvs.map (·.2)).map (frz μ k) := by rw [List.map_map, List.map_map]; rfl
      rw [em]
      refine all h3 ?_
      rw [← em, List.all_map]
      exact h
    | _ =>
      have ef : frz μ (k + 1) d = lk μ d := by rw [show frz μ (k + 1) d = (match lk μ d with | .lst ds => D.lst (ds.map (frz μ k)) | .tup ds => .tup (ds.map (frz μ k)) | .dct kvs => .dct (kvs.map fun p => (p.1, frz μ k p.2)) | e => e) from rfl, e]
      rw [ef, e] at h ⊢
      have nr : ∀ l, d ≠ .ref l := by
        intro l z
        subst z
        first
          | (simp [goodF] at h; done)
          | (rcases lk_ref e (by simp) with ⟨_, _, q⟩ | ⟨_, _, q⟩ | ⟨_, _, _, q⟩ <;> cases q)
      have ed : lk μ d = d := by
        cases d with
        | ref l => exact absurd rfl (nr l)
        | _ => rfl
      rw [ed] at e
      subst e
      first
        | (simp [goodF] at h; done)
        | (cases r; rfl)
def kdn : D → Nat
  | .non => 0
  | .bl _ => 1
  | .int _ => 1
  | .str _ => 2
  | .lst _ => 3
  | .tup _ => 4
  | .dct _ => 5
  | _ => 9
def deqW : Nat → D → D → Option Bool
  | 0, x, y => bif D.okn 0 x && D.okn 0 y then some (PyData.eqv (D.py 0 x) (D.py 0 y)) else none
  | k + 1, x, y => bif D.okn (k + 1) x && D.okn (k + 1) y then some (PyData.eqv (D.py (k + 1) x) (D.py (k + 1) y)) else
    if kdn x ≠ kdn y ∧ kdn x < 9 ∧ kdn y < 9 then some false else (match x, y with
    | .lst xs, .lst ys => if xs.length = ys.length then allT (deqW k) xs ys else some false
    | .tup xs, .tup ys => (allT (deqW k) (xs.take (min xs.length ys.length)) (ys.take (min xs.length ys.length))).map fun r => r && decide (xs.length = ys.length)
    | .dct a, .dct b => if (a.map (·.1)).Nodup ∧ (b.map (·.1)).Nodup then (dctT (deqW k) b a).map fun r => decide (a.length = b.length) && r else none
    | _, _ => none)
theorem allT_same {f : D → D → Option Bool} (hf : ∀ d b, f d d = some b → b = true) : ∀ (xs : List D) (b : Bool), allT f xs xs = some b → b = true
  | [], b, h => by cases h; rfl
  | x :: xs, b, h => by
    unfold allT at h
    split at h
    · rename_i c d e1 e2
      cases h
      rw [hf _ _ e1, allT_same hf xs _ e2]; rfl
    · cases h
theorem dctT_same {f : D → D → Option Bool} (hf : ∀ d b, f d d = some b → b = true) {a : List (Key × D)} : ∀ (l : List (Key × D)) (r : Bool), (∀ p ∈ l, lookD a p.1 = some p.2) → dctT f a l = some r → r = true
  | [], r, _, h => by cases h; rfl
  | (k, v) :: l, r, hl, h => by
    have e0 := hl (k, v) (by simp)
    unfold dctT at h
    rw [e0] at h
    simp only at h
    split at h
    · rename_i x y e1 e2
      cases h
      rw [hf _ _ e1, dctT_same hf l _ (fun p hp => hl p (by simp [hp])) e2]; rfl
    · cases h
theorem lookD_nodup {p : Key × D} : ∀ {l : List (Key × D)}, (l.map (·.1)).Nodup → p ∈ l → lookD l p.1 = some p.2
  | [], _, h => by cases h
  | q :: l, nd, hm => by
    rw [List.map_cons, List.nodup_cons] at nd
    rcases List.mem_cons.mp hm with e | hm
    · subst e; simp [lookD]
    · have hne : ¬ q.1 = p.1 := fun z => nd.1 (z ▸ List.mem_map.mpr ⟨_, hm, rfl⟩)
      have := lookD_nodup nd.2 hm
      unfold lookD at this ⊢
      rw [List.find?_cons]
      simp only [hne, decide_false]
      exact this
theorem deqW_same : ∀ (k : Nat) (d : D) (b : Bool), deqW k d d = some b → b = true := by
  have okc : ∀ k (d : D) (b : Bool), D.okn k d = true → some (PyData.eqv (D.py k d) (D.py k d)) = some b → b = true := by
    intro k d b h1 h
    cases h
    exact SeqAt.eqv_refl _ (okn_lay k d h1).1
  intro k
  induction k with
  | zero =>
    intro d b h
    unfold deqW at h
    cases ho : D.okn 0 d with
    | false => rw [ho] at h; cases h
    | true => rw [ho] at h; exact okc 0 d b ho h
  | succ k ih =>
    intro d b h
    unfold deqW at h
    cases ho : D.okn (k + 1) d with
    | true => rw [ho] at h; exact okc (k + 1) d b ho h
    | false =>
      rw [ho] at h
      simp only [Bool.and_self, cond_false, ne_eq, not_true_eq_false, false_and, if_false] at h
      cases d <;> simp only at h <;> first
        | (cases h; done)
        | (rw [if_pos trivial] at h; exact allT_same ih _ _ h)
        | (simp only [if_true] at h; exact allT_same ih _ _ h)
        | (obtain ⟨r, hr, rfl⟩ := Option.map_eq_some_iff.mp h; rw [allT_same ih _ _ hr]; simp)
        | (split at h
           · rename_i nd
             obtain ⟨r, hr, rfl⟩ := Option.map_eq_some_iff.mp h
             rw [dctT_same ih _ _ (fun p hp => lookD_nodup nd.1 hp) hr]; simp
           · cases h)
end DV
namespace DV
open PySem PySem.Spec PyProof.Rows L2
open PySem.W (EqTree)
section
variable {X : Cx} {pins : List (Addr × Obj)} {σ : L2.St} {H : Hp} {s : Shared} {R : V → D → Prop}
theorem ftree_items {k m : Nat} {f : D → D → Option Bool} {vs vs' : List V} {us us' : List Value} {ds es : List D} {b : Bool} (t1 : Frs R vs ds) (t2 : Frs R vs' es) (w1 : Vals vs us) (w2 : Vals vs' us') (hm : m = min ds.length es.length) (h : allT f (ds.take m) (es.take m) = some b)
    (ih : ∀ {x y : V} {dx dy : D} {b : Bool} {u v : Value}, R x dx → R y dy → f dx dy = some b → RelV x u → RelV y v → EqTree X.prog X.w s k u v b) :
    us.toArray.size = ds.length ∧ us'.toArray.size = es.length ∧ (∀ j (h1 : j < us.toArray.size) (h2 : j < us'.toArray.size), EqTree X.prog X.w s k us.toArray[j] us'.toArray[j] ((f (ds.getD j .non) (es.getD j .non)).getD false)) ∧ b = (List.range m).all fun j => (f (ds.getD j .non) (es.getD j .non)).getD false := by
  obtain ⟨g1, g2, g3⟩ := allT_get h
  have l1 : us.length = ds.length := w1.length.symm.trans t1.length
  have l2 : us'.length = es.length := w2.length.symm.trans t2.length
  refine ⟨by simp [l1], by simp [l2], fun j h1 h2 => ?_, ?_⟩
  · have h1 : j < us.length := by simpa using h1
    have h2 : j < us'.length := by simpa using h2
    have j1 : j < ds.length := by omega
    have j2 : j < es.length := by omega
    obtain ⟨x, hx, rx⟩ := t1.get (List.getElem?_eq_getElem j1)
    obtain ⟨y, hy, ry⟩ := t2.get (List.getElem?_eq_getElem j2)
    obtain ⟨u, hu, ru⟩ := w1.get hx
    obtain ⟨v, hv, rv⟩ := w2.get hy
    have jm : j < m := by omega
    obtain ⟨c, hc⟩ := g2 j ds[j] es[j] (by rw [List.getElem?_take, if_pos jm]; exact List.getElem?_eq_getElem j1) (by rw [List.getElem?_take, if_pos jm]; exact List.getElem?_eq_getElem j2)
    have e1 : us.toArray[j] = u := by
      rw [List.getElem?_eq_getElem h1] at hu; cases hu; simp
    have e2 : us'.toArray[j] = v := by
      rw [List.getElem?_eq_getElem h2] at hv; cases hv; simp
    rw [e1, e2, List.getD_eq_getElem?_getD, List.getD_eq_getElem?_getD, List.getElem?_eq_getElem j1, List.getElem?_eq_getElem j2]
    simp only [Option.getD_some, hc]
    exact ih rx ry hc ru rv
  · rw [g3, List.length_take, hm, show min (min ds.length es.length) ds.length = min ds.length es.length from by omega]
    have e : ∀ j, j < min ds.length es.length → (f ((ds.take (min ds.length es.length)).getD j .non) ((es.take (min ds.length es.length)).getD j .non)).getD false = (f (ds.getD j .non) (es.getD j .non)).getD false := by
      intro j hj
      rw [List.getD_eq_getElem?_getD, List.getD_eq_getElem?_getD, List.getD_eq_getElem?_getD, List.getD_eq_getElem?_getD, List.getElem?_take, if_pos hj, List.getElem?_take, if_pos hj]
    rw [Bool.eq_iff_iff, List.all_eq_true, List.all_eq_true]
    constructor
    · intro a j hj; rw [← e j (List.mem_range.mp hj)]; exact a j hj
    · intro a j hj; rw [e j (List.mem_range.mp hj)]; exact a j hj
theorem fkv_get {us : List (Key × V)} {ds : List D} {vs : List (Key × Value)} {k : Key} (t : Frs R (us.map (·.2)) ds) (r : KV us vs) : (∀ v, PySem.valueAt vs k = some v → ∃ x d, RelV x v ∧ R x d ∧ lookD ((us.map (·.1)).zip ds) k = some d) ∧ (PySem.valueAt vs k).isSome = (lookD ((us.map (·.1)).zip ds) k).isSome := by
  induction us generalizing ds vs with
  | nil =>
    cases r
    exact ⟨fun v h => by simp [PySem.valueAt] at h, by simp [PySem.valueAt, lookD]⟩
  | cons p us ih =>
    cases r with
    | cons h r =>
      rename_i q vs
      rw [List.map_cons] at t
      cases t with
      | cons t0 t1 =>
        rename_i d ds
        obtain ⟨i1, i2⟩ := ih t1 r
        by_cases e : p.1 = k
        · have e' : q.1 = k := h.1 ▸ e
          refine ⟨fun v hv => ?_, ?_⟩
          · simp [PySem.valueAt, List.find?_cons, e'] at hv
            subst hv
            exact ⟨p.2, d, h.2, t0, by simp [lookD, List.find?_cons, e]⟩
          · simp [PySem.valueAt, lookD, List.find?_cons, e, e']
        · have e' : ¬ q.1 = k := fun z => e (h.1.trans z)
          refine ⟨fun v hv => ?_, ?_⟩
          · have hv' : PySem.valueAt vs k = some v := by simpa [PySem.valueAt, List.find?_cons, e'] using hv
            obtain ⟨x, d', a1, a2, a3⟩ := i1 v hv'
            exact ⟨x, d', a1, a2, by simpa [lookD, List.find?_cons, e] using a3⟩
          · simpa [PySem.valueAt, lookD, List.find?_cons, e, e'] using i2
theorem fkv_mem {us : List (Key × V)} {ds : List D} {vs : List (Key × Value)} (t : Frs R (us.map (·.2)) ds) (r : KV us vs) : vs.length = ds.length ∧ ∀ (j : Nat) q, vs[j]? = some q → ∃ x d, RelV x q.2 ∧ R x d ∧ ((us.map (·.1)).zip ds)[j]? = some (q.1, d) := by
  induction us generalizing ds vs with
  | nil => cases r; cases t; exact ⟨rfl, fun j q h => by simp at h⟩
  | cons p us ih =>
    cases r with
    | cons h r =>
      rename_i q vs
      rw [List.map_cons] at t
      cases t with
      | cons t0 t1 =>
        obtain ⟨i1, i2⟩ := ih t1 r
        refine ⟨by simp [i1], fun j q' hq => ?_⟩
        cases j with
        | zero => simp at hq; subst hq; exact ⟨_, _, h.2, t0, by simp [h.1]⟩
        | succ j =>
          obtain ⟨x, d, a1, a2, a3⟩ := i2 j q' (by simpa using hq)
          exact ⟨x, d, a1, a2, by simpa using a3⟩
/-- dicts -/
theorem ftree_dicts {k : Nat} {f : D → D → Option Bool} {us us' : List (Key × V)} {ds es : List D} {vs vs' : List (Key × Value)} {r : Bool} (t1 : Frs R (us.map (·.2)) ds) (t2 : Frs R (us'.map (·.2)) es) (w1 : KV us vs) (w2 : KV us' vs')
    (nd : ((((us.map (·.1)).zip ds)).map (·.1)).Nodup) (h : dctT (f) ((us'.map (·.1)).zip es) ((us.map (·.1)).zip ds) = some r)
    (ih : ∀ {x y : V} {dx dy : D} {b : Bool} {u v : Value}, R x dx → R y dy → f dx dy = some b → RelV x u → RelV y v → EqTree X.prog X.w s k u v b) :
    ∃ e : Key → Bool, (∀ q v y, (q, v) ∈ vs → PySem.valueAt vs' q = some y → EqTree X.prog X.w s k v y (e q)) ∧ (decide (((us.map (·.1)).zip ds).length = ((us'.map (·.1)).zip es).length) && r) = (vs.length == vs'.length && vs.all fun p => (PySem.valueAt vs' p.1).isSome && e p.1) := by
  obtain ⟨g1, g2⟩ := dctT_get h
  obtain ⟨m1, m2⟩ := fkv_mem t1 w1
  obtain ⟨m3, _⟩ := fkv_mem t2 w2
  have lu : us.length = ds.length := by have := t1.length; simpa using this
  have lu' : us'.length = es.length := by have := t2.length; simpa using this
  let L := (us.map (·.1)).zip ds
  have look : ∀ q d, (q, d) ∈ L → lookD L q = some d := by
    intro q d hm
    have : ∀ (l : List (Key × D)), (l.map (·.1)).Nodup → (q, d) ∈ l → lookD l q = some d := by
      intro l
      induction l with
      | nil => intro _ h; cases h
      | cons p l ihl =>
        intro nd hm
        rw [List.map_cons, List.nodup_cons] at nd
        rcases List.mem_cons.mp hm with e | hm
        · subst e; simp [lookD]
        · have hne : ¬ p.1 = q := fun z => nd.1 (z ▸ List.mem_map.mpr ⟨_, hm, rfl⟩)
          have := ihl nd.2 hm
          unfold lookD at this ⊢
          rw [List.find?_cons]
          simp only [hne, decide_false]
          exact this
    exact this L nd hm
  refine ⟨fun q => ((lookD L q).bind fun d => (lookD ((us'.map (·.1)).zip es) q).bind fun w => f d w).getD false, fun q v y hm hy => ?_, ?_⟩
  · obtain ⟨j, hj⟩ := List.getElem?_of_mem hm
    obtain ⟨x, d, rx, rd, hz⟩ := m2 j _ hj
    have hmem : (q, d) ∈ L := List.mem_of_getElem? hz
    obtain ⟨y', d', ry, rd', hl⟩ := (fkv_get (k := q) t2 w2).1 y hy
    obtain ⟨c, hc⟩ := g1 q d d' hmem hl
    simp only [look q d hmem, hl, Option.bind_some, hc, Option.getD_some]
    exact ih rd rd' hc rx ry
  · rw [g2]
    have e1 : decide (((us.map (·.1)).zip ds).length = ((us'.map (·.1)).zip es).length) = (vs.length == vs'.length) := by
      simp only [List.length_zip, List.length_map, lu, lu', Nat.min_self, m1, m3]
      by_cases z : ds.length = es.length <;> simp [z]
    rw [e1]
    congr 1
    have e2 : ∀ (j : Nat) q, vs[j]? = some q → ∃ p, L[j]? = some p ∧ p.1 = q.1 := fun j q hq => by
      obtain ⟨x, d, _, _, hz⟩ := m2 j q hq
      exact ⟨_, hz, rfl⟩
    have lL : L.length = vs.length := by simp [L, lu, m1]
    rw [Bool.eq_iff_iff, List.all_eq_true, List.all_eq_true]
    have one : ∀ p ∈ L, ((lookD ((us'.map (·.1)).zip es) p.1).isSome && (((lookD ((us'.map (·.1)).zip es) p.1).bind fun w => f p.2 w).getD false)) = ((PySem.valueAt vs' p.1).isSome && (((lookD L p.1).bind fun d => (lookD ((us'.map (·.1)).zip es) p.1).bind fun w => f d w).getD false)) := fun p hp => by
      rw [(fkv_get (k := p.1) t2 w2).2, look p.1 p.2 hp]; rfl
    constructor
    · intro a q hq
      obtain ⟨j, hj⟩ := List.getElem?_of_mem hq
      obtain ⟨p, hp, ep⟩ := e2 j q hj
      have hp' := List.mem_of_getElem? hp
      rw [← ep, ← one p hp']
      exact a p hp'
    · intro a p hp
      obtain ⟨j, hj⟩ := List.getElem?_of_mem hp
      have hjl : j < vs.length := by rw [← lL]; exact (List.getElem?_eq_some_iff.mp hj).1
      obtain ⟨p', hp2, ep⟩ := e2 j _ (List.getElem?_eq_getElem hjl)
      rw [hj] at hp2; cases hp2
      rw [one p hp, ep]
      exact a _ (List.getElem_mem hjl)
/-- what the heap says of a value of each kind -/
def KF (h : Heap) (u : Value) (d : D) : Prop := match d with
  | .non => u = .none
  | .bl b => u = .bool b
  | .int i => ∃ t, u = .int i t
  | .str z => ∃ t, u = .str z t
  | .lst _ => ∃ a its, u = .ref a ∧ h.IsList a its
  | .tup _ => ∃ a its, u = .ref a ∧ h.IsTuple a its
  | .dct _ => ∃ a, u = .ref a ∧ IsDct h a
  | _ => False
theorem dictOf_is {K : Type} [DecidableEq K] {prog : Program} {w : World} {knd : KeyKind prog w K} {h : Heap} {a : Addr} {kvs : List (K × Value)} (d : h.DictOf knd a kvs) : IsDct h a := by
  obtain ⟨o, es, ep, ho, he, hd, _⟩ := d
  exact ⟨o, es, ep, ho, he.1, hd⟩
theorem Fr.kf (I : Inv X pins σ H s) {k : Nat} {v : V} {d : D} {u : Value} (h : Fr X.K H k v d) (ru : RelV v u) : KF s.heap u d := by
  cases k with
  | zero =>
    unfold Fr at h
    cases d <;> simp only at h <;> first | exact h.elim | (subst h; first | exact ru | (cases ru; first | exact rfl | exact ⟨_, rfl⟩ | exact ⟨_, by assumption⟩))
  | succ k =>
    unfold Fr at h
    cases d <;> simp only at h <;> first
      | exact h.elim
      | (subst h; first | exact ru | (cases ru; first | exact rfl | exact ⟨_, rfl⟩ | exact ⟨_, by assumption⟩))
      | (obtain ⟨a, vs, rfl, e, t⟩ := h
         cases ru
         obtain ⟨its, w1, p1, _⟩ := I.list (.inl (.inl e))
         exact ⟨_, _, rfl, p1.isList⟩)
      | (obtain ⟨a, vs, rfl, e, t⟩ := h
         cases ru
         obtain ⟨its, w1, p1, _⟩ := I.tuple (.inl (.inl e))
         exact ⟨_, _, rfl, p1⟩)
      | (obtain ⟨a, us, rfl, e, _, t⟩ := h
         cases ru
         obtain ⟨_, y1, vs, kv1, d1⟩ := dk_rd I.hok e
         exact ⟨_, rfl, dictOf_is d1⟩)
theorem unlike_EqAt {x y : D} {u v : Value} (hx : KF s.heap u x) (hy : KF s.heap v y) (hk : kdn x ≠ kdn y) (A : Around) (hu : A.units < cLine) : SeqAt.EqAt A s u v false := by
  cases x <;> cases y <;> first | exact hx.elim | exact hy.elim | exact absurd rfl hk | skip
  · obtain rfl := hx
    obtain rfl := hy
    exact SeqAt.EqAt.none_bool _
  · obtain rfl := hx
    obtain ⟨t2, rfl⟩ := hy
    exact SeqAt.EqAt.none_int _ _
  · obtain rfl := hx
    obtain ⟨t2, rfl⟩ := hy
    exact SeqAt.EqAt.none_str _ _
  · obtain rfl := hx
    obtain ⟨l2, its2, rfl, q2⟩ := hy
    exact SeqAt.EqAt.none_list q2 hu
  · obtain rfl := hx
    obtain ⟨l2, its2, rfl, q2⟩ := hy
    exact SeqAt.EqAt.none_tuple q2 hu
  · obtain rfl := hx
    obtain ⟨l2, rfl, q2⟩ := hy
    exact DV.EqAt.none_dict q2 hu
  · obtain rfl := hx
    obtain rfl := hy
    exact SeqAt.EqAt.bool_none _
  · obtain rfl := hx
    obtain ⟨t2, rfl⟩ := hy
    exact SeqAt.EqAt.bool_str _ _ _
  · obtain rfl := hx
    obtain ⟨l2, its2, rfl, q2⟩ := hy
    exact SeqAt.EqAt.bool_list _ q2 hu
  · obtain rfl := hx
    obtain ⟨l2, its2, rfl, q2⟩ := hy
    exact SeqAt.EqAt.bool_tuple _ q2 hu
  · obtain rfl := hx
    obtain ⟨l2, rfl, q2⟩ := hy
    exact DV.EqAt.bool_dict _ q2 hu
  · obtain ⟨t1, rfl⟩ := hx
    obtain rfl := hy
    exact SeqAt.EqAt.int_none _ _
  · obtain ⟨t1, rfl⟩ := hx
    obtain ⟨t2, rfl⟩ := hy
    exact SeqAt.EqAt.int_str _ _ _ _
  · obtain ⟨t1, rfl⟩ := hx
    obtain ⟨l2, its2, rfl, q2⟩ := hy
    exact SeqAt.EqAt.int_list _ _ q2 hu
  · obtain ⟨t1, rfl⟩ := hx
    obtain ⟨l2, its2, rfl, q2⟩ := hy
    exact SeqAt.EqAt.int_tuple _ _ q2 hu
  · obtain ⟨t1, rfl⟩ := hx
    obtain ⟨l2, rfl, q2⟩ := hy
    exact DV.EqAt.int_dict _ _ q2 hu
  · obtain ⟨t1, rfl⟩ := hx
    obtain rfl := hy
    exact SeqAt.EqAt.str_none _ _
  · obtain ⟨t1, rfl⟩ := hx
    obtain rfl := hy
    exact SeqAt.EqAt.str_bool _ _ _
  · obtain ⟨t1, rfl⟩ := hx
    obtain ⟨t2, rfl⟩ := hy
    exact SeqAt.EqAt.str_int _ _ _ _
  · obtain ⟨t1, rfl⟩ := hx
    obtain ⟨l2, its2, rfl, q2⟩ := hy
    exact SeqAt.EqAt.str_list _ _ q2 hu
  · obtain ⟨t1, rfl⟩ := hx
    obtain ⟨l2, its2, rfl, q2⟩ := hy
    exact SeqAt.EqAt.str_tuple _ _ q2 hu
  · obtain ⟨t1, rfl⟩ := hx
    obtain ⟨l2, rfl, q2⟩ := hy
    exact DV.EqAt.str_dict _ _ q2 hu
  · obtain ⟨l1, its1, rfl, q1⟩ := hx
    obtain rfl := hy
    exact SeqAt.EqAt.list_none q1 hu
  · obtain ⟨l1, its1, rfl, q1⟩ := hx
    obtain rfl := hy
    exact SeqAt.EqAt.list_bool _ q1 hu
  · obtain ⟨l1, its1, rfl, q1⟩ := hx
    obtain ⟨t2, rfl⟩ := hy
    exact SeqAt.EqAt.list_int _ _ q1 hu
  · obtain ⟨l1, its1, rfl, q1⟩ := hx
    obtain ⟨t2, rfl⟩ := hy
    exact SeqAt.EqAt.list_str _ _ q1 hu
  · obtain ⟨l1, its1, rfl, q1⟩ := hx
    obtain ⟨l2, its2, rfl, q2⟩ := hy
    exact SeqAt.EqAt.list_tuple q1 q2 hu
  · obtain ⟨l1, its1, rfl, q1⟩ := hx
    obtain ⟨l2, rfl, q2⟩ := hy
    exact DV.EqAt.list_dict q1 q2 hu
  · obtain ⟨l1, its1, rfl, q1⟩ := hx
    obtain rfl := hy
    exact SeqAt.EqAt.tuple_none q1 hu
  · obtain ⟨l1, its1, rfl, q1⟩ := hx
    obtain rfl := hy
    exact SeqAt.EqAt.tuple_bool _ q1 hu
  · obtain ⟨l1, its1, rfl, q1⟩ := hx
    obtain ⟨t2, rfl⟩ := hy
    exact SeqAt.EqAt.tuple_int _ _ q1 hu
  · obtain ⟨l1, its1, rfl, q1⟩ := hx
    obtain ⟨t2, rfl⟩ := hy
    exact SeqAt.EqAt.tuple_str _ _ q1 hu
  · obtain ⟨l1, its1, rfl, q1⟩ := hx
    obtain ⟨l2, its2, rfl, q2⟩ := hy
    exact SeqAt.EqAt.tuple_list q1 q2 hu
  · obtain ⟨l1, its1, rfl, q1⟩ := hx
    obtain ⟨l2, rfl, q2⟩ := hy
    exact DV.EqAt.tuple_dict q1 q2 hu
  · obtain ⟨l1, rfl, q1⟩ := hx
    obtain rfl := hy
    exact DV.EqAt.dict_none q1 hu
  · obtain ⟨l1, rfl, q1⟩ := hx
    obtain rfl := hy
    exact DV.EqAt.dict_bool _ q1 hu
  · obtain ⟨l1, rfl, q1⟩ := hx
    obtain ⟨t2, rfl⟩ := hy
    exact DV.EqAt.dict_int _ _ q1 hu
  · obtain ⟨l1, rfl, q1⟩ := hx
    obtain ⟨t2, rfl⟩ := hy
    exact DV.EqAt.dict_str _ _ q1 hu
  · obtain ⟨l1, rfl, q1⟩ := hx
    obtain ⟨l2, its2, rfl, q2⟩ := hy
    exact DV.EqAt.dict_list q2 q1 hu
  · obtain ⟨l1, rfl, q1⟩ := hx
    obtain ⟨l2, its2, rfl, q2⟩ := hy
    exact DV.EqAt.dict_tuple q2 q1 hu
theorem unlike_RcAt {x y : D} {u v : Value} (hx : KF s.heap u x) (hy : KF s.heap v y) (hk : kdn x ≠ kdn y) (A : Around) (hu : A.units < cLine) : SeqAt.RcAt A s u v false := by
  cases x <;> cases y <;> first | exact hx.elim | exact hy.elim | exact absurd rfl hk | skip
  · obtain rfl := hx
    obtain rfl := hy
    exact SeqAt.RcAt.none_bool _
  · obtain rfl := hx
    obtain ⟨t2, rfl⟩ := hy
    exact SeqAt.RcAt.none_int _ _
  · obtain rfl := hx
    obtain ⟨t2, rfl⟩ := hy
    exact SeqAt.RcAt.none_str _ _
  · obtain rfl := hx
    obtain ⟨l2, its2, rfl, q2⟩ := hy
    exact SeqAt.RcAt.none_list q2 hu
  · obtain rfl := hx
    obtain ⟨l2, its2, rfl, q2⟩ := hy
    exact SeqAt.RcAt.none_tuple q2 hu
  · obtain rfl := hx
    obtain ⟨l2, rfl, q2⟩ := hy
    exact DV.RcAt.none_dict q2 hu
  · obtain rfl := hx
    obtain rfl := hy
    exact SeqAt.RcAt.bool_none _
  · obtain rfl := hx
    obtain ⟨t2, rfl⟩ := hy
    exact SeqAt.RcAt.bool_str _ _ _
  · obtain rfl := hx
    obtain ⟨l2, its2, rfl, q2⟩ := hy
    exact SeqAt.RcAt.bool_list _ q2 hu
  · obtain rfl := hx
    obtain ⟨l2, its2, rfl, q2⟩ := hy
    exact SeqAt.RcAt.bool_tuple _ q2 hu
  · obtain rfl := hx
    obtain ⟨l2, rfl, q2⟩ := hy
    exact DV.RcAt.bool_dict _ q2 hu
  · obtain ⟨t1, rfl⟩ := hx
    obtain rfl := hy
    exact SeqAt.RcAt.int_none _ _
  · obtain ⟨t1, rfl⟩ := hx
    obtain ⟨t2, rfl⟩ := hy
    exact SeqAt.RcAt.int_str _ _ _ _
  · obtain ⟨t1, rfl⟩ := hx
    obtain ⟨l2, its2, rfl, q2⟩ := hy
    exact SeqAt.RcAt.int_list _ _ q2 hu
  · obtain ⟨t1, rfl⟩ := hx
    obtain ⟨l2, its2, rfl, q2⟩ := hy
    exact SeqAt.RcAt.int_tuple _ _ q2 hu
  · obtain ⟨t1, rfl⟩ := hx
    obtain ⟨l2, rfl, q2⟩ := hy
    exact DV.RcAt.int_dict _ _ q2 hu
  · obtain ⟨t1, rfl⟩ := hx
    obtain rfl := hy
    exact SeqAt.RcAt.str_none _ _
  · obtain ⟨t1, rfl⟩ := hx
    obtain rfl := hy
    exact SeqAt.RcAt.str_bool _ _ _
  · obtain ⟨t1, rfl⟩ := hx
    obtain ⟨t2, rfl⟩ := hy
    exact SeqAt.RcAt.str_int _ _ _ _
  · obtain ⟨t1, rfl⟩ := hx
    obtain ⟨l2, its2, rfl, q2⟩ := hy
    exact SeqAt.RcAt.str_list _ _ q2 hu
  · obtain ⟨t1, rfl⟩ := hx
    obtain ⟨l2, its2, rfl, q2⟩ := hy
    exact SeqAt.RcAt.str_tuple _ _ q2 hu
  · obtain ⟨t1, rfl⟩ := hx
    obtain ⟨l2, rfl, q2⟩ := hy
    exact DV.RcAt.str_dict _ _ q2 hu
  · obtain ⟨l1, its1, rfl, q1⟩ := hx
    obtain rfl := hy
    exact SeqAt.RcAt.list_none q1 hu
  · obtain ⟨l1, its1, rfl, q1⟩ := hx
    obtain rfl := hy
    exact SeqAt.RcAt.list_bool _ q1 hu
  · obtain ⟨l1, its1, rfl, q1⟩ := hx
    obtain ⟨t2, rfl⟩ := hy
    exact SeqAt.RcAt.list_int _ _ q1 hu
  · obtain ⟨l1, its1, rfl, q1⟩ := hx
    obtain ⟨t2, rfl⟩ := hy
    exact SeqAt.RcAt.list_str _ _ q1 hu
  · obtain ⟨l1, its1, rfl, q1⟩ := hx
    obtain ⟨l2, its2, rfl, q2⟩ := hy
    exact SeqAt.RcAt.list_tuple q1 q2 hu
  · obtain ⟨l1, its1, rfl, q1⟩ := hx
    obtain ⟨l2, rfl, q2⟩ := hy
    exact DV.RcAt.list_dict q1 q2 hu
  · obtain ⟨l1, its1, rfl, q1⟩ := hx
    obtain rfl := hy
    exact SeqAt.RcAt.tuple_none q1 hu
  · obtain ⟨l1, its1, rfl, q1⟩ := hx
    obtain rfl := hy
    exact SeqAt.RcAt.tuple_bool _ q1 hu
  · obtain ⟨l1, its1, rfl, q1⟩ := hx
    obtain ⟨t2, rfl⟩ := hy
    exact SeqAt.RcAt.tuple_int _ _ q1 hu
  · obtain ⟨l1, its1, rfl, q1⟩ := hx
    obtain ⟨t2, rfl⟩ := hy
    exact SeqAt.RcAt.tuple_str _ _ q1 hu
  · obtain ⟨l1, its1, rfl, q1⟩ := hx
    obtain ⟨l2, its2, rfl, q2⟩ := hy
    exact SeqAt.RcAt.tuple_list q1 q2 hu
  · obtain ⟨l1, its1, rfl, q1⟩ := hx
    obtain ⟨l2, rfl, q2⟩ := hy
    exact DV.RcAt.tuple_dict q1 q2 hu
  · obtain ⟨l1, rfl, q1⟩ := hx
    obtain rfl := hy
    exact DV.RcAt.dict_none q1 hu
  · obtain ⟨l1, rfl, q1⟩ := hx
    obtain rfl := hy
    exact DV.RcAt.dict_bool _ q1 hu
  · obtain ⟨l1, rfl, q1⟩ := hx
    obtain ⟨t2, rfl⟩ := hy
    exact DV.RcAt.dict_int _ _ q1 hu
  · obtain ⟨l1, rfl, q1⟩ := hx
    obtain ⟨t2, rfl⟩ := hy
    exact DV.RcAt.dict_str _ _ q1 hu
  · obtain ⟨l1, rfl, q1⟩ := hx
    obtain ⟨l2, its2, rfl, q2⟩ := hy
    exact DV.RcAt.dict_list q2 q1 hu
  · obtain ⟨l1, rfl, q1⟩ := hx
    obtain ⟨l2, its2, rfl, q2⟩ := hy
    exact DV.RcAt.dict_tuple q2 q1 hu
end
section
variable {X : Cx} {pins : List (Addr × Obj)} {σ : L2.St} {H : Hp} {s : Shared}
theorem deqW_tree (I : Inv X pins σ H s) : ∀ (k : Nat) {x y : V} {dx dy : D} {b : Bool} {u v : Value}, Fr X.K H k x dx → Fr X.K H k y dy → deqW k dx dy = some b → RelV x u → RelV y v → EqTree X.prog X.w s k u v b := by
  have okc : ∀ k {x y : V} {dx dy : D} {b : Bool} {u v : Value}, Fr X.K H k x dx → Fr X.K H k y dy → D.okn k dx = true → D.okn k dy = true → some (PyData.eqv (D.py k dx) (D.py k dy)) = some b → RelV x u → RelV y v → EqTree X.prog X.w s k u v b := by
    intro k x y dx dy b u v r1 r2 h1 h2 h ru rv
    cases h
    exact tree_data I (Fr.dp k _ _ r1 h1) (Fr.dp k _ _ r2 h2) (okn_lay k dx h1).1 (okn_lay k dy h2).1 (okn_lay k dx h1).2 ru rv
  intro k
  induction k with
  | zero =>
    intro x y dx dy b u v r1 r2 h ru rv
    unfold deqW at h
    cases ho : (D.okn 0 dx && D.okn 0 dy) with
    | false => rw [ho] at h; cases h
    | true =>
      rw [ho] at h
      rw [Bool.and_eq_true] at ho
      exact okc 0 r1 r2 ho.1 ho.2 h ru rv
  | succ k ih =>
    intro x y dx dy b u v r1 r2 h ru rv
    have h0 := h
    have same : x = y → b = true := fun e => by
      subst e
      have := Fr.fun_ (k + 1) _ _ _ r1 r2
      subst this
      exact deqW_same (k + 1) _ _ h0
    unfold deqW at h
    cases ho : (D.okn (k + 1) dx && D.okn (k + 1) dy) with
    | true =>
      rw [ho] at h
      rw [Bool.and_eq_true] at ho
      exact okc (k + 1) r1 r2 ho.1 ho.2 h ru rv
    | false =>
      rw [ho] at h
      simp only [cond_false] at h
      by_cases hk : kdn dx ≠ kdn dy ∧ kdn dx < 9 ∧ kdn dy < 9
      · rw [if_pos hk] at h
        cases h
        exact .leaf fun A hA => unlike_EqAt (r1.kf I ru) (r2.kf I rv) hk.1 A (by omega)
      · rw [if_neg hk] at h
        split at h
        · rename_i xs ys
          obtain ⟨a, vs, rfl, e1, t1⟩ := r1
          obtain ⟨a', vs', rfl, e2, t2⟩ := r2
          cases ru; cases rv
          by_cases hne : a = a'
          · rw [same (by rw [hne]), hne]; exact .same
          · obtain ⟨its, w1, p1, _⟩ := I.list (.inl (.inl e1))
            obtain ⟨its', w2, p2, _⟩ := I.list (.inl (.inl e2))
            split at h
            · rename_i hl
              have h' : allT (deqW k) (xs.take (min xs.length ys.length)) (ys.take (min xs.length ys.length)) = some b := by
                rw [← hl, Nat.min_self, List.take_length, hl, List.take_length]; exact h
              obtain ⟨z1, z2, z3, z4⟩ := ftree_items t1 t2 w1 w2 rfl h' ih
              have q := EqTree.lists (prog := X.prog) (w := X.w) (s := s) hne p1.isList p2.isList (by rw [z1, z2, hl]) z3
              rw [z4, ← hl, Nat.min_self, ← z1]
              exact q
            · rename_i hl
              cases h
              refine .listsLen hne p1.isList p2.isList ?_
              have l1 : its.length = xs.length := w1.length.symm.trans t1.length
              have l2 : its'.length = ys.length := w2.length.symm.trans t2.length
              simp [l1, l2, hl]
        · rename_i xs ys
          obtain ⟨a, vs, rfl, e1, t1⟩ := r1
          obtain ⟨a', vs', rfl, e2, t2⟩ := r2
          cases ru; cases rv
          by_cases hne : a = a'
          · rw [same (by rw [hne]), hne]; exact .same
          · obtain ⟨its, w1, p1, _⟩ := I.tuple (.inl (.inl e1))
            obtain ⟨its', w2, p2, _⟩ := I.tuple (.inl (.inl e2))
            obtain ⟨r, hr, rfl⟩ := Option.map_eq_some_iff.mp h
            obtain ⟨z1, z2, z3, z4⟩ := ftree_items t1 t2 w1 w2 rfl hr ih
            have q := EqTree.tuples (prog := X.prog) (w := X.w) (s := s) hne p1 p2 z3
            rw [z1, z2] at q
            rw [z4]
            have e : decide (xs.length = ys.length) = (xs.length == ys.length) := by by_cases z : xs.length = ys.length <;> simp [z]
            rw [e]
            exact q
        · rename_i a0 b0
          split at h
          · rename_i nd
            obtain ⟨r, hr, hb⟩ := Option.map_eq_some_iff.mp h
            obtain ⟨a, us, rfl, e1, k1, t1⟩ := r1
            obtain ⟨a', us', rfl, e2, k2, t2⟩ := r2
            cases ru; cases rv
            by_cases hne : a = a'
            · rw [same (by rw [hne]), hne]; exact .same
            · obtain ⟨_, y1, vs, kv1, d1⟩ := dk_rd I.hok e1
              obtain ⟨_, y2, vs', kv2, d2⟩ := dk_rd I.hok e2
              have nd1 := nd.1
              rw [zip_back k1] at nd1 hr
              rw [zip_back k2] at hr
              obtain ⟨e, f1, f2⟩ := ftree_dicts (s := s) t1 t2 kv1 kv2 nd1 hr ih
              rw [← zip_back k1, ← zip_back k2] at f2
              rw [← hb, f2]
              exact .dicts (knd := mixKind X.prog X.w) hne y1 y2 d1 d2 f1
          · cases h
        · cases h
def rEqV (K : PySem.W.Frag) : R2 := fun x y H Q => ∃ dx dy b, Fr K H 12 x dx ∧ Fr K H 12 y dy ∧ deqW 12 dx dy = some b ∧ Q (.bl b) H
theorem op_eqV (hu : X.A.units + 64 < cLine) : OpR X (compareOp .Eq) (rEqV X.K) := by
  intro pins s σ H x y v u Q I rx ry hq
  obtain ⟨dx, dy, b, r1, r2, h, q⟩ := hq
  unfold deqW at h
  cases ho : (D.okn (11 + 1) dx && D.okn (11 + 1) dy) with
  | true =>
    rw [ho] at h
    rw [Bool.and_eq_true] at ho
    cases h
    exact op_eqD hu pins s σ H x y v u Q I rx ry ⟨_, _, Fr.dp 12 _ _ r1 ho.1, Fr.dp 12 _ _ r2 ho.2, shaped_py ho.1, shaped_py ho.2, q⟩
  | false =>
    rw [ho] at h
    simp only [cond_false] at h
    have fin : EP X pins σ Q (.bool b) s := ⟨.bl b, H, I, rfl, q⟩
    by_cases hk : kdn dx ≠ kdn dy ∧ kdn dx < 9 ∧ kdn dy < 9
    · rw [if_pos hk] at h
      cases h
      exact unlike_RcAt (r1.kf I rx) (r2.kf I ry) hk.1 X.A (by omega) X.prog X.w _ _ fin
    · rw [if_neg hk] at h
      split at h
      · rename_i xs ys
        obtain ⟨a, vs, rfl, e1, t1⟩ := r1
        obtain ⟨a', vs', rfl, e2, t2⟩ := r2
        cases rx; cases ry
        obtain ⟨its, w1, p1, _⟩ := I.list (.inl (.inl e1))
        obtain ⟨its', w2, p2, _⟩ := I.list (.inl (.inl e2))
        split at h
        · rename_i hl
          have h' : allT (deqW 11) (xs.take (min xs.length ys.length)) (ys.take (min xs.length ys.length)) = some b := by
            rw [← hl, Nat.min_self, List.take_length, hl, List.take_length]; exact h
          obtain ⟨z1, z2, z3, z4⟩ := ftree_items t1 t2 w1 w2 rfl h' (deqW_tree I 11)
          refine PySem.W.eq_listsT p1.isList p2.isList (by rw [z1, z2, hl]) z3 (by omega) ?_
          rw [z4, ← hl, Nat.min_self, ← z1] at fin
          exact fin
        · rename_i hl
          cases h
          have l1 : its.length = xs.length := w1.length.symm.trans t1.length
          have l2 : its'.length = ys.length := w2.length.symm.trans t2.length
          exact SeqAt.RcAt.lists_lengths (A := X.A) p1.isList p2.isList (by simp [l1, l2, hl]) (by omega) X.prog X.w _ _ fin
      · rename_i xs ys
        obtain ⟨a, vs, rfl, e1, t1⟩ := r1
        obtain ⟨a', vs', rfl, e2, t2⟩ := r2
        cases rx; cases ry
        obtain ⟨its, w1, p1, _⟩ := I.tuple (.inl (.inl e1))
        obtain ⟨its', w2, p2, _⟩ := I.tuple (.inl (.inl e2))
        obtain ⟨r, hr, rfl⟩ := Option.map_eq_some_iff.mp h
        obtain ⟨z1, z2, z3, z4⟩ := ftree_items t1 t2 w1 w2 rfl hr (deqW_tree I 11)
        refine PySem.W.eq_tuplesT p1 p2 z3 (by omega) ?_
        have e : decide (xs.length = ys.length) = (xs.length == ys.length) := by by_cases z : xs.length = ys.length <;> simp [z]
        rw [z4, e] at fin
        rw [z1, z2]
        exact fin
      · rename_i a0 b0
        split at h
        · rename_i nd
          obtain ⟨r, hr, hb⟩ := Option.map_eq_some_iff.mp h
          obtain ⟨a, us, rfl, e1, k1, t1⟩ := r1
          obtain ⟨a', us', rfl, e2, k2, t2⟩ := r2
          cases rx; cases ry
          obtain ⟨_, y1, vs, kv1, d1⟩ := dk_rd I.hok e1
          obtain ⟨_, y2, vs', kv2, d2⟩ := dk_rd I.hok e2
          have nd1 := nd.1
          rw [zip_back k1] at nd1 hr
          rw [zip_back k2] at hr
          obtain ⟨e, f1, f2⟩ := ftree_dicts (s := s) t1 t2 kv1 kv2 nd1 hr (deqW_tree I 11)
          rw [← zip_back k1, ← zip_back k2] at f2
          refine PySem.W.eq_dictsT (knd := mixKind X.prog X.w) y1 y2 d1 d2 f1 (by omega) ?_
          rw [← hb, f2] at fin
          exact fin
        · cases h
      · cases h
/-- == looking through cells -/
def gEqV : G2 := fun x y μ Q => goodF 12 (frz μ 12 x) = true ∧ goodF 12 (frz μ 12 y) = true ∧ ∃ b, deqW 12 (frz μ 12 x) (frz μ 12 y) = some b ∧ Q (.bl b) μ
theorem op_gEqV {K : PySem.W.Frag} : Op2 K (rEqV K) gEqV := fun n μ x y dx dy Qd Q s rx ry ⟨g1, g2, b, h, q⟩ l =>
  ⟨_, _, b, fr_frz s 12 _ _ rx g1, fr_frz s 12 _ _ ry g2, h, l.now s (.bl _) q⟩
variable {W : WX} {a b : Expr} {pos : Pos} {fa fb : DTE}
theorem de_eqV (hu : X.A.units + 64 < cLine) (ha : DE X W a fa) (hb : DE X W b fb) : DE X W (.Compare a [.Eq] [b] pos) (dBin gEqV fa fb) := de_cmp (op_eqV hu) op_gEqV ha hb (nomark _)
end
end DV
/-! a, b, c, d = a list of four; (a, b), (c, d) = a pair of pairs -/
namespace DV
open PySem PySem.Spec PyProof.Rows L2
end DV
/-! for (a, b, c) in triples -/
namespace DV
open PySem PySem.Spec PyProof.Rows L2
end DV
/-! Own classes and methods called with keywords. -/
namespace DV
open PySem PySem.Spec PyProof.Rows L2
def up1 (π : List Nat) : List Nat := 0 :: π.map (· + 1)
theorem pick_up {α : Type} (π : List Nat) (a : α) (l : List α) : pick (up1 π) (a :: l) = a :: pick π l := by
  unfold pick up1
  rw [List.filterMap_cons_some (b := a) (by simp), List.filterMap_map]
  congr 1
section
variable {X : Cx} {W : WX} {k : Nat} {fI C : Addr} {fd : FuncData} {ps ks : List Str} {S : DSp} {x m : Str} {p pos apos : Pos} {o e : Expr} {es : List Expr} {kws : List Keyword} {fo : DTE} {fr fk : DTA} {π : List Nat} {np nk : Nat} {kb : FuncData → Prop}
theorem kb_self (hb : KBd X.K fd ps (np + 1) ks (up1 π)) {s : Shared} {us ws : List Value} (h : X.K.In s.heap) (l1 : us.length = np) (l2 : ws.length = ks.length) (a : Value) : BindsTo s fd ⟨a :: us, ks.zip ws⟩ (ps.zip (a :: pick π (us ++ ws))) := by
  have := hb s (a :: us) ws h (by rw [List.length_cons, l1]) l2
  rwa [List.cons_append, pick_up] at this
end
end DV
/-! isinstance(e, an own error class), e the error that the suite holds. -/
namespace DV
open PySem PySem.Spec PyProof.Rows L2
def isxB (k : EK) (x : Str) (K : PySem.W.Frag) : Bool := (PySem.W.clsIn K (xa K k)).isSome && (He.eqO (PySem.W.findIn K (.ref (xa K k)) "__getattribute__") (some (some (.builtin "BaseException.__getattribute__"))) && (He.eqO (PySem.W.findIn K (.ref (xa K k)) "__getattr__") (some none) &&
  (decide (PySem.W.subIn K (.ref (xa K k)) (.type "BaseException") = some true) && (He.eqO (PySem.W.findIn K (.ref (xa K k)) "__class__") (some (some (.builtin "object.__class__"))) && (He.eqO (PySem.W.specialIn K (.builtin "object.__class__") "__get__") (some (some (.builtin "getset_descriptor.__get__"))) &&
  (decide (PySem.W.takesIn K (.builtin "object.__class__") = some true) && (decide (PySem.W.mroIn K (xa K k) (.type "object") = some true) && decide (PySem.W.kitOne K (.ref (xa K k)) (.ref (He.ga K x)) = some true))))))))
structure IsX (K : PySem.W.Frag) (k : EK) (B : Addr) : Prop where
  cl : (PySem.W.clsIn K (xa K k)).isSome = true
  ga : PySem.W.findIn K (.ref (xa K k)) "__getattribute__" = some (some (.builtin "BaseException.__getattribute__"))
  gg : PySem.W.findIn K (.ref (xa K k)) "__getattr__" = some none
  sb : PySem.W.subIn K (.ref (xa K k)) (.type "BaseException") = some true
  ha : PySem.W.findIn K (.ref (xa K k)) "__class__" = some (some (.builtin "object.__class__"))
  hn : PySem.W.specialIn K (.builtin "object.__class__") "__get__" = some (some (.builtin "getset_descriptor.__get__"))
  ht : PySem.W.takesIn K (.builtin "object.__class__") = some true
  hm : PySem.W.mroIn K (xa K k) (.type "object") = some true
  is : PySem.W.kitOne K (.ref (xa K k)) (.ref B) = some true
theorem isxB_ok {k : EK} {x : Str} {K : PySem.W.Frag} (h : isxB k x K = true) : IsX K k (He.ga K x) := by
  obtain ⟨h1, h⟩ := He.ba h
  obtain ⟨h2, h⟩ := He.ba h
  obtain ⟨h3, h⟩ := He.ba h
  obtain ⟨h4, h⟩ := He.ba h
  obtain ⟨h5, h⟩ := He.ba h
  obtain ⟨h6, h⟩ := He.ba h
  obtain ⟨h7, h⟩ := He.ba h
  obtain ⟨h8, h9⟩ := He.ba h
  exact ⟨h1, He.eqO_ok h2, He.eqO_ok h3, of_decide_eq_true h4, He.eqO_ok h5, He.eqO_ok h6, of_decide_eq_true h7, of_decide_eq_true h8, of_decide_eq_true h9⟩
end DV
/-! own errors as plain values: made, asked for their class and their field. -/
namespace DV
open PySem PySem.Spec PyProof.Rows L2
/-! ### C(e), C(f=e), C() -/
section
variable {X : Cx} {e : Expr} {x : Str} {p pos : Pos} {C fI : Addr} {fd : FuncData} {n1 n2 : Str} {sp : Sp} {ta : TA} {kws : List Keyword}
theorem run_mkV {pins : List (Addr × Obj)} {σ : L2.St} {H1 : Hp} {s : Shared} {Q : VK} {us ws : List Value} {vs : List V} (T : OexC X.K C) (iC : PySem.W.findIn X.K (.ref C) "__init__" = some (some (.ref fI))) (tI : PySem.W.typeIn X.K (.ref fI) = some (.type "function")) {ps : List Str} (F1 : FnOk X.prog X.w X.K X.mg X.base CX0 1 fI fd ps sp) (hr : Room 2 X.A)
    (hb : ∀ (s' : Shared) (a : Addr), X.K.In s'.heap → BindsTo s' fd ⟨.ref a :: us, []⟩ (ps.zip (.ref a :: ws))) (I1 : Inv X pins σ H1 s) (r1 : Vals vs ws) (few : us.length ≤ sizeLine)
    (q1 : ∀ a, H1 a = none → sp (.ref a :: vs) (upd H1 a (exo a C none)) (fun v H2 => v = .non ∧ Q (.ref a) H2) (fun _ _ _ => False)) :
    wpAny (model X.prog X.w) X.A (call (.ref C) us []) (EP X pins σ Q) X.xe s := by
  obtain ⟨_, _, _, _, bm, _, _, _, _, _, _, _, _, _, _, clsAt, hbm⟩ := T.cls
  obtain ⟨hp, g, dr, tk, os⟩ := s
  have above : hp.objs.size ≤ hp.objs.size + 1 := Nat.le_succ _
  have q2 := q1 (hp.objs.size + 1) (I1.hok.fresh above)
  have stays : ∀ b o, hp.get? b = some o → ((hp.push (PySem.W.kdv_tup us)).push (PySem.HandSPX.excO C hp.objs.size)).get? b = some o := fun b o z => Heap.get?_push_of_some _ (Heap.get?_push_of_some _ z)
  have J : Inv X pins σ (upd H1 (hp.objs.size + 1) (exo (hp.objs.size + 1) C none)) ⟨(hp.push (PySem.W.kdv_tup us)).push (PySem.HandSPX.excO C hp.objs.size), g, dr, tk, os⟩ := I1.laid (t' := tk) stays above (exo_ok (by heap_get))
  have rr : Vals (V.ref (hp.objs.size + 1) :: vs) (Value.ref (hp.objs.size + 1) :: ws) := .cons rfl r1
  have bb := hb ⟨(hp.push (PySem.W.kdv_tup us)).push (PySem.HandSPX.excO C hp.objs.size), g, dr, tk, os⟩ (hp.objs.size + 1) J.kIn
  have run := F1.run _ X.stack _ _ ⟨Value.ref (hp.objs.size + 1) :: us, []⟩ (Value.ref (hp.objs.size + 1) :: ws) _ _ (fun _ _ _ => False) (hr.make C us []) (J.env0.make C us []) bb rr q2
  refine wpAny_call (PySem.HandSPX.call_own F.excBase_ValueError (fun Y => PySem.HandSPX.refsVE_contains Y bm hbm) (I1.kIn _ _ clsAt) (PySem.W.looks_findIn I1.kIn iC) (fun self => PySem.W.bind_fn I1.kIn self tI) few (codeAny_mono run fun r s' hq' => ?_))
  match r, s', hq' with
  | .error _, _, hq' => exact hq'.elim
  | .ok .next, _, hq' => exact hq'.elim
  | .ok .brk, _, hq' => exact hq'.elim
  | .ok .cont, _, hq' => exact hq'.elim
  | .ok (.ret u), s', hq' =>
    obtain ⟨v, H', I3, rv, ev, q3⟩ := J.after hq'
    subst ev
    exact ⟨rv, ⟨V.ref (hp.objs.size + 1), H', I3, rfl, q3⟩⟩
theorem run_mkVK {pins : List (Addr × Obj)} {σ : L2.St} {H1 : Hp} {s : Shared} {Q : VK} {ws : List Value} {kw : List (Str × Value)} {vs : List V} (T : OexC X.K C) (iC : PySem.W.findIn X.K (.ref C) "__init__" = some (some (.ref fI))) (tI : PySem.W.typeIn X.K (.ref fI) = some (.type "function")) {ps : List Str} (F1 : FnOk X.prog X.w X.K X.mg X.base CX0 1 fI fd ps sp) (hr : Room 2 X.A)
    (hb : ∀ (s' : Shared) (a : Addr), X.K.In s'.heap → BindsTo s' fd ⟨[.ref a], kw⟩ (ps.zip (.ref a :: ws))) (I1 : Inv X pins σ H1 s) (r1 : Vals vs ws)
    (q1 : ∀ a, H1 a = none → sp (.ref a :: vs) (upd H1 a (exo a C none)) (fun v H2 => v = .non ∧ Q (.ref a) H2) (fun _ _ _ => False)) :
    wpAny (model X.prog X.w) X.A (call (.ref C) [] kw) (EP X pins σ Q) X.xe s := by
  obtain ⟨_, _, _, _, bm, _, _, _, _, _, _, _, _, _, _, clsAt, hbm⟩ := T.cls
  obtain ⟨hp, g, dr, tk, os⟩ := s
  have above : hp.objs.size ≤ hp.objs.size + 1 := Nat.le_succ _
  have q2 := q1 (hp.objs.size + 1) (I1.hok.fresh above)
  have stays : ∀ b o, hp.get? b = some o → ((hp.push (PySem.W.kdv_tup [])).push (PySem.HandSPX.excO C hp.objs.size)).get? b = some o := fun b o z => Heap.get?_push_of_some _ (Heap.get?_push_of_some _ z)
  have J : Inv X pins σ (upd H1 (hp.objs.size + 1) (exo (hp.objs.size + 1) C none)) ⟨(hp.push (PySem.W.kdv_tup [])).push (PySem.HandSPX.excO C hp.objs.size), g, dr, tk, os⟩ := I1.laid (t' := tk) stays above (exo_ok (by heap_get))
  have rr : Vals (V.ref (hp.objs.size + 1) :: vs) (Value.ref (hp.objs.size + 1) :: ws) := .cons rfl r1
  have bb := hb ⟨(hp.push (PySem.W.kdv_tup [])).push (PySem.HandSPX.excO C hp.objs.size), g, dr, tk, os⟩ (hp.objs.size + 1) J.kIn
  have run := F1.run _ X.stack _ _ ⟨[Value.ref (hp.objs.size + 1)], kw⟩ (Value.ref (hp.objs.size + 1) :: ws) _ _ (fun _ _ _ => False) (hr.make C [] kw) (J.env0.make C [] kw) bb rr q2
  refine wpAny_call (PySem.XKw.call_kw F.excBase_ValueError (fun Y => PySem.HandSPX.refsVE_contains Y bm hbm) (I1.kIn _ _ clsAt) (PySem.W.looks_findIn I1.kIn iC) (fun self => PySem.W.bind_fn I1.kIn self tI) (codeAny_mono run fun r s' hq' => ?_))
  match r, s', hq' with
  | .error _, _, hq' => exact hq'.elim
  | .ok .next, _, hq' => exact hq'.elim
  | .ok .brk, _, hq' => exact hq'.elim
  | .ok .cont, _, hq' => exact hq'.elim
  | .ok (.ret u), s', hq' =>
    obtain ⟨v, H', I3, rv, ev, q3⟩ := J.after hq'
    subst ev
    exact ⟨rv, ⟨V.ref (hp.objs.size + 1), H', I3, rfl, q3⟩⟩
end
/-! ### the same, deep -/
def HasEk (P : Program) (w : World) (K : PySem.W.Frag) (mg : Str → Option Value) (base : Heap) (k : EK) (f : Str) (nm : Str) : Prop :=
  ∃ fI fd n1 n2, mg k.nm = some (.ref (xa K k)) ∧ ErrC K k fI ∧ Binds K fd [n1, n2] [] ∧ KBd K fd [n1, n2] 1 [nm] (up1 [0]) ∧ FnOk P w K mg base CX0 1 fI fd [n1, n2] (spI1 (xa K k) f)
/-- the class of an error, as the cell holds it -/
def dMkX (k : EK) (f : Str) (fa : DTA) : DTE := fun Γ μ Q E => fa Γ μ (fun ds μ1 => ∃ d, ds = [d] ∧ Q (.ref (μ1.length + 1)) (μ1 ++ [.xdc [(f, d)], .exo k (some μ1.length)])) E
def dMkX0 (k : EK) : DTE := fun _ μ Q _ => Q (.ref μ.length) (μ ++ [.exo k none])
section
variable {K : PySem.W.Frag}
theorem mkx_go {n1 : Now} {μ1 : Mu} {k : EK} {f : Str} {v : V} {d : D} {Qd : D → Mu → Prop} {Q : VK} (r1 : SR0 K n1 μ1) (p1 : Rep K n1.Hb n1.al v d) (hq : LV K n1 Qd Q) (q : Qd (.ref (μ1.length + 1)) (μ1 ++ [.xdc [(f, d)], .exo k (some μ1.length)])) :
    ∀ a, n1.H a = none → spI1 (xa K k) f [.ref a, v] (upd n1.H a (exo a (xa K k) none)) (fun r H2 => r = .non ∧ Q (.ref a) H2) (fun _ _ _ => False) := by
  intro a na
  refine ⟨a, v, rfl, upd_same, fun dx hdx hne => ⟨rfl, ?_⟩⟩
  have hdx' : n1.H dx = none := by rw [upd_ne hne] at hdx; exact hdx
  have sd : SR0 K (n1.cell dx (exd dx [(f, v)])) (μ1 ++ [.xdc [(f, d)]]) := r1.cellN hdx' (c := .xdc [(f, d)]) ⟨r1.hb hdx', [(f, v)], upd_same, fun g => by
      simp only [List.lookup_cons, List.lookup_nil]
      cases g == f <;> simp, fun g u hu => by
      rw [List.lookup_cons] at hu
      split at hu
      · rename_i e
        cases hu
        exact ⟨d, by rw [List.lookup_cons, e], p1.mono (Same.refl _) (List.prefix_append _ _)⟩
      · cases hu⟩ (fun _ z => by cases z)
  have na2 : (n1.cell dx (exd dx [(f, v)])).H a = none := by
    show upd n1.H dx _ a = none
    rw [upd_ne (Ne.symm hne)]; exact na
  have hal : (n1.cell dx (exd dx [(f, v)])).al = n1.al ++ [dx] := rfl
  have lk : (n1.al ++ [dx])[μ1.length]? = some dx := by rw [← r1.len]; simp
  have se : SR0 K ((n1.cell dx (exd dx [(f, v)])).cell a (exo a (xa K k) (some dx))) ((μ1 ++ [.xdc [(f, d)]]) ++ [.exo k (some μ1.length)]) := sd.cellN na2 (c := .exo k (some μ1.length)) ⟨sd.hb na2, some dx, upd_same, dx, rfl, pre_get (List.prefix_append _ _) lk⟩ (fun _ z => by cases z)
  have st : Step n1 ((n1.cell dx (exd dx [(f, v)])).cell a (exo a (xa K k) (some dx))) := (Step.cell hdx').trans (Step.cell na2)
  have eH : upd (upd (upd n1.H a (exo a (xa K k) none)) dx (exd dx [(f, v)])) a (exo a (xa K k) (some dx)) = ((n1.cell dx (exd dx [(f, v)])).cell a (exo a (xa K k) (some dx))).H := by
    funext b
    show _ = upd (upd n1.H dx _) a _ b
    by_cases hb : b = a
    · subst hb; rw [upd_same, upd_same]
    · rw [upd_ne hb, upd_ne hb]
      by_cases hd : b = dx
      · subst hd; rw [upd_same, upd_same]
      · rw [upd_ne hd, upd_ne hd, upd_ne hb]
  rw [eH]
  have em : (μ1 ++ [Cell.xdc [(f, d)]]) ++ [.exo k (some μ1.length)] = μ1 ++ [.xdc [(f, d)], .exo k (some μ1.length)] := by simp
  rw [em] at se
  refine hq _ _ (.ref (μ1.length + 1)) _ st se (.ref ?_) q
  show ((n1.al ++ [dx]) ++ [a])[μ1.length + 1]? = some a
  rw [List.getElem?_append_right (by rw [List.length_append, r1.len]; simp)]
  rw [List.length_append, r1.len]
  simp
theorem mkx0_go {n1 : Now} {μ1 : Mu} {k : EK} {Qd : D → Mu → Prop} {Q : VK} (r1 : SR0 K n1 μ1) (hq : LV K n1 Qd Q) (q : Qd (.ref μ1.length) (μ1 ++ [.exo k none])) :
    ∀ a, n1.H a = none → spI0 (xa K k) [.ref a] (upd n1.H a (exo a (xa K k) none)) (fun r H2 => r = .non ∧ Q (.ref a) H2) (fun _ _ _ => False) := by
  intro a na
  refine ⟨a, rfl, upd_same, rfl, ?_⟩
  have se : SR0 K (n1.cell a (exo a (xa K k) none)) (μ1 ++ [.exo k none]) := r1.cellN na (c := .exo k none) ⟨r1.hb na, none, upd_same, rfl⟩ (fun _ z => by cases z)
  refine hq _ _ (.ref μ1.length) _ (Step.cell na) se (.ref ?_) q
  show (n1.al ++ [a])[μ1.length]? = some a
  rw [← r1.len]; simp
end
section
variable {X : Cx} {W : WX} {e : Expr} {x f nm : Str} {p pos p2 : Pos} {k : EK} {fa : DTE} {kws : List Keyword} {fk : DTA}
theorem de_mkX (h : HasE X.prog X.w X.K X.mg X.base k f) (hr : Room 2 X.A) (hg : Gl X x) (ha : DE X W e fa) (hk : x = k.nm := by rfl) (hdb : (x == ("__debug__" : Str)) = false := by decide)
    (he : starEach [e] X.env = (false, eval e X.env) :: starEach [] X.env := by rfl) (hpl : (backTo pos (starEach [] X.env)).any (·.1) = false := by rfl) : DE X W (.Call (.Name x p) [e] [] pos) (dMkX k f (dCons fa dNil)) := by
  subst hk
  obtain ⟨fI, fd, n1, n2, hm, ⟨T, iC, tI⟩, hb, F⟩ := h
  refine ⟨fun pins s σ H Q I ⟨n, Γ, μ, Qd, Ed, hH, sr, gr, h, hq, hx⟩ => ?_⟩
  subst hH
  refine wpAny_Call_Name_kw (ld_glob I hg hm ?_ hdb)
  let R : List V → Hp → Prop := fun vs H1 => ∃ n1 d v μ1, n1.H = H1 ∧ vs = [v] ∧ SR0 X.K n1 μ1 ∧ Rep X.K n1.Hb n1.al v d ∧ LV X.K n1 Qd Q ∧ Qd (.ref (μ1.length + 1)) (μ1 ++ [.xdc [(f, d)], .exo k (some μ1.length)])
  refine PySem.W.callWith_K (h₀ := X.base) I.ok.mod.kin T.kC (thn ((da_cons ha da_nil he).run pos pins s σ n.H R I (liftA_go sr gr h (fun n1 vs ds μ1 s1 r1 p1 q1 => ?_) hx)) ?_) he hpl
  · obtain ⟨d, rfl, q1⟩ := q1
    cases p1 with
    | cons rv pn =>
      cases pn
      exact ⟨n1, d, _, μ1, rfl, rfl, r1, rv, LV.step hq s1, q1⟩
  rintro us s1 ⟨vs, H1, I1, r, n1, d, v, μ1, rfl, rfl, r1, rv, hq1, q1⟩
  refine ⟨I1.kIn, ?_⟩
  have l1 := Paired.length r
  have hul : us.length = 1 := by rw [← l1]; rfl
  refine run_mkV (ws := us) T iC tI F hr (fun s' a hk => ?_) I1 r (by rw [sizeLine_eq]; simp; omega) (mkx_go r1 rv hq1 q1)
  have := hb s' (.ref a :: us) hk (by simpa using hul)
  rwa [List.append_nil] at this
theorem de_mkXK (h : HasEk X.prog X.w X.K X.mg X.base k f nm) (hr : Room 2 X.A) (hg : Gl X x) (hkw : DK X W kws fk) (hk : x = k.nm := by rfl)
    (hall : (backToKw pos (keywordEach kws X.env)).all (·.1.isSome) = true := by rfl) (hks : (backToKw pos (keywordEach kws X.env)).filterMap (·.1) = [nm] := by rfl) (hdb : (x == ("__debug__" : Str)) = false := by decide)
    (hpl : ((backTo pos (starEach [] X.env)).any (·.1) || (backToKw pos (keywordEach kws X.env)).any (·.1.isNone)) = false := by rfl) : DE X W (.Call (.Name x p) [] kws pos) (dMkX k f fk) := by
  subst hk
  obtain ⟨fI, fd, n1, n2, hm, ⟨T, iC, tI⟩, _, hkb, F⟩ := h
  refine ⟨fun pins s σ H Q I ⟨n, Γ, μ, Qd, Ed, hH, sr, gr, h, hq, hx⟩ => ?_⟩
  subst hH
  refine wpAny_Call_Name_kw (ld_glob I hg hm ?_ hdb)
  let R : List V → Hp → Prop := fun vs H1 => ∃ n1 d v μ1, n1.H = H1 ∧ vs = [v] ∧ SR0 X.K n1 μ1 ∧ Rep X.K n1.Hb n1.al v d ∧ LV X.K n1 Qd Q ∧ Qd (.ref (μ1.length + 1)) (μ1 ++ [.xdc [(f, d)], .exo k (some μ1.length)])
  refine PySem.W.callWith_KW0 (h₀ := X.base) I.ok.mod.kin T.kC hall (thn (hkw.run pos pins s σ n.H R I (liftA_go sr gr h (fun n1 vs ds μ1 s1 r1 p1 q1 => ?_) hx)) ?_) hpl
  · obtain ⟨d, rfl, q1⟩ := q1
    cases p1 with
    | cons rv pn =>
      cases pn
      exact ⟨n1, d, _, μ1, rfl, rfl, r1, rv, LV.step hq s1, q1⟩
  rintro ws s1 ⟨vs, H1, I1, r, n1, d, v, μ1, rfl, rfl, r1, rv, hq1, q1⟩
  refine ⟨I1.kIn, ?_⟩
  rw [hks]
  have l1 := Paired.length r
  have hul : ws.length = 1 := by rw [← l1]; rfl
  obtain ⟨w, rfl⟩ : ∃ w, ws = [w] := by
    match ws, hul with
    | [w], _ => exact ⟨w, rfl⟩
  refine run_mkVK (ws := [w]) T iC tI F hr (fun s' a hk => ?_) I1 r (mkx_go r1 rv hq1 q1)
  exact kb_self (us := []) (np := 0) hkb hk rfl rfl (.ref a)
theorem de_mkX0 (h : HasE0 X.prog X.w X.K X.mg X.base k) (hr : Room 2 X.A) (hg : Gl X x) (hk : x = k.nm := by rfl) (hdb : (x == ("__debug__" : Str)) = false := by decide) :
    DE X W (.Call (.Name x p) [] [] pos) (dMkX0 k) := by
  subst hk
  obtain ⟨fI, fd, n1, hm, ⟨T, iC, tI⟩, hb, F⟩ := h
  refine ⟨fun pins s σ H Q I ⟨n, Γ, μ, Qd, Ed, hH, sr, gr, h, hq, hx⟩ => ?_⟩
  subst hH
  refine wpAny_Call_Name_kw (ld_glob I hg hm ?_ hdb)
  refine PySem.W.callWith_K0 (first := []) I.kIn T.kC ?_
  refine run_mkV (us := []) (ws := []) T iC tI F hr (fun s' a hk => ?_) I .nil (by simp) (mkx0_go sr hq h)
  have := hb s' [.ref a] hk rfl
  rwa [List.append_nil] at this
/-! ### e.f, isinstance(e, T) -/
def dXV (k : EK) (f : Str) (fe : DTE) : DTE := fun Γ μ Q E => fe Γ μ (fun v μ1 => ∃ l m fs d, v = .ref l ∧ μ1[l]? = some (.exo k (some m)) ∧ μ1[m]? = some (.xdc fs) ∧ fs.lookup f = some d ∧ Q d μ1) E
/-- what the heap holds of such an error -/
theorem see_exo {K : PySem.W.Frag} {n : Now} {μ : Mu} {l m : Nat} {k : EK} {fs : List (Str × D)} {v : V} (s : SR0 K n μ) (r : Rep K n.Hb n.al v (.ref l)) (h : μ[l]? = some (.exo k (some m))) (h2 : μ[m]? = some (.xdc fs)) :
    ∃ a dx us, v = .ref a ∧ n.H a = some (exo a (xa K k) (some dx)) ∧ n.H dx = some (exd dx us) ∧ (∀ f, us.lookup f = none ↔ fs.lookup f = none) ∧ ∀ f v, us.lookup f = some v → ∃ d, fs.lookup f = some d ∧ Rep K n.Hb n.al v d := by
  cases r with
  | @ref _ a hl =>
    obtain ⟨_, dxo, h3, h4⟩ := s.cell l a _ hl h
    obtain ⟨dx, rfl, h4⟩ := h4
    obtain ⟨_, us, h5, h6, h7⟩ := s.cell m dx _ h4 h2
    exact ⟨a, dx, us, rfl, h3, h5, h6, h7⟩
def tXV (C : Addr) (f : Str) (te : TE) : TE := fun σ H Q => te σ H fun x H1 => ∃ (a dx : Addr) (fs : List (Str × V)) (v : V), x = .ref a ∧ H1 a = some (exo a C (some dx)) ∧ H1 dx = some (exd dx fs) ∧ fs.lookup f = some v ∧ Q v H1
theorem pe_xv {te : TE} {C : Addr} (T : XfC X.K C) (hno : PySem.W.findIn X.K (.ref C) f = some none) (he : PE X e te) (hb : attributeBase e f X.env (eval e X.env) = eval e X.env := by rfl) : PE X (.Attribute e f pos) (tXV C f te) := by
  refine ⟨fun pins s σ H Q I h => ?_⟩
  refine attr_of hb (thn (he.run pins s σ H _ I h) fun u s1 hh => ?_)
  obtain ⟨x, H1, I1, rx, a, dx, fs, v, rfl, ea, ed, l, q⟩ := hh
  obtain rfl : u = Value.ref a := rx
  obtain ⟨t1, ha⟩ := exo_at I1.hok ea
  obtain ⟨mA, hns, hr⟩ := exd_at I1.hok ed
  obtain ⟨od, ho, hl⟩ := lookIn_ns hns
  obtain ⟨u, hu, ru⟩ := RelO.some_of (v := v) (o := mA f) (by rw [← l]; exact hr f)
  have J : PySem.W.InstAt s1.heap a _ C (some od) := ⟨ha, rfl, rfl, ho⟩
  exact HandSPX.exc_get I1.kIn J T.ga T.gg T.exC (PySem.W.findObj_own T.hdC hno rfl (by rw [hl, hu])) (handed_of ru) ⟨v, H1, I1.tok _, ru, q⟩
theorem de_xv (h : XfC X.K (xa X.K k) ∧ PySem.W.findIn X.K (.ref (xa X.K k)) f = some none) (he : DE X W e fa) (hb : attributeBase e f X.env (eval e X.env) = eval e X.env := by rfl) : DE X W (.Attribute e f pos) (dXV k f fa) :=
  PE.imp (pe_xv h.1 h.2 he hb) fun σ H Q ⟨n, Γ, μ, Qd, Ed, hH, sr, gr, h, hq, hx⟩ => by
  subst hH
  refine lift_go sr gr h (fun n1 x dx μ1 s1 r1 p1 q1 => ?_) hx
  obtain ⟨l, m, fs, d, rfl, e1, e2, e3, q1⟩ := q1
  obtain ⟨a, dx, us, rfl, h1, h2, h3, h4⟩ := see_exo r1 p1 e1 e2
  cases eu : us.lookup f with
  | none => rw [(h3 f).mp eu] at e3; cases e3
  | some v =>
    obtain ⟨d2, z1, z2⟩ := h4 f v eu
    rw [e3] at z1; cases z1
    exact ⟨a, dx, us, v, rfl, h1, h2, eu, hq n1 v d μ1 s1 r1 z2 q1⟩
/-- isinstance of an error: of an own class, of the base, of ValueError -/
inductive XT where
  | own (k : EK) | base | val
  deriving DecidableEq
def XT.v (K : PySem.W.Frag) : XT → Value
  | .own k => .ref (xa K k)
  | .base => .ref (He.ga K "ChooserError")
  | .val => .type "ValueError"
def XT.b (t : XT) (k : EK) : Bool := match t with
  | .own j => decide (k = j)
  | _ => true
def isvB (ks : List EK) (K : PySem.W.Frag) : Bool := ks.all fun k => isxB k "ChooserError" K && (((ks.map XT.own) ++ [XT.base, XT.val]).all fun t => decide (PySem.W.kitOne K (.ref (xa K k)) (t.v K) = some (t.b k)))
def IsV (ks : List EK) (K : PySem.W.Frag) : Prop := ∀ k ∈ ks, IsX K k (He.ga K "ChooserError") ∧ ∀ t ∈ (ks.map XT.own) ++ [XT.base, XT.val], PySem.W.kitOne K (.ref (xa K k)) (t.v K) = some (t.b k)
theorem isvB_ok {ks : List EK} {K : PySem.W.Frag} (h : isvB ks K = true) : IsV ks K := fun k hk => by
  obtain ⟨h1, h2⟩ := He.ba (List.all_eq_true.mp h k hk)
  exact ⟨isxB_ok h1, fun t ht => of_decide_eq_true (List.all_eq_true.mp h2 t ht)⟩
def rIsV (K : PySem.W.Frag) (ks : List EK) (t : XT) : List V → Hp → VK → Prop := fun xs H Q => ∃ (a : Addr) (c : V) (k : EK) (dxo : Option Addr), xs = [.ref a, c] ∧ (∀ u, RelV c u → u = t.v K) ∧ H a = some (exo a (xa K k) dxo) ∧ (∀ dx, dxo = some dx → ∃ us, H dx = some (exd dx us)) ∧ k ∈ ks ∧ Q (.bl (t.b k)) H
theorem call_isV {ks : List EK} {t : XT} (C : IsV ks X.K) (ht : t ∈ (ks.map XT.own) ++ [XT.base, XT.val]) : CallR X (.builtin "isinstance") (rIsV X.K ks t) := by
  intro pins s σ H xs us Q I r h
  obtain ⟨a, c, k, dxo, rfl, hcv, ea, ed, hk, q⟩ := h
  obtain ⟨C1, C2⟩ := C k hk
  cases r with
  | cons rx rr =>
    cases rr with
    | cons rt rr =>
      cases rr
      cases rx
      have ec := hcv _ rt
      subst ec
      obtain ⟨t1, ha⟩ := exo_at I.hok ea
      have J : ∃ od, PySem.W.InstAt s.heap a ({ cls := .ref (xa X.K k), dict := dxo, data := .fields #[.ref t1, .none, .none, .none, .bool false, .none] } : Obj) (xa X.K k) od := by
        cases dxo with
        | none => exact ⟨none, ha, rfl, rfl, trivial⟩
        | some dx =>
          obtain ⟨us, ed⟩ := ed dx rfl
          obtain ⟨mA, hns, hr⟩ := exd_at I.hok ed
          obtain ⟨od, ho, hl⟩ := lookIn_ns hns
          exact ⟨some od, ha, rfl, rfl, ho⟩
      obtain ⟨od, J⟩ := J
      exact PySem.W.kia_one (PySem.W.kitx_exc C1.cl C1.ga C1.gg C1.sb C1.ha C1.hn C1.ht C1.hm) I.kIn J (C2 t ht) (fun z => by cases t <;> cases z) fun tk => ⟨.bl (t.b k), H, I.kept (t' := tk) fun _ _ z => z, rfl, q⟩
def dIsV (ks : List EK) (t : XT) (fe : DTE) : DTE := fun Γ μ Q E => fe Γ μ (fun v μ1 => ∃ l k m, v = .ref l ∧ k ∈ ks ∧ μ1[l]? = some (.exo k m) ∧ (∀ j, m = some j → ∃ fs, μ1[j]? = some (.xdc fs)) ∧ Q (.bl (t.b k)) μ1) E
theorem isv_go {ks : List EK} {t : XT} {c : V} {n : Now} {μ : Mu} {l : Nat} {k : EK} {m : Option Nat} {v : V} {Q : VK} {Qd : D → Mu → Prop} (s : SR0 X.K n μ) (r : Rep X.K n.Hb n.al v (.ref l)) (hc : ∀ u, RelV c u → u = t.v X.K) (hk : k ∈ ks) (e1 : μ[l]? = some (.exo k m)) (e2 : ∀ j, m = some j → ∃ fs, μ[j]? = some (.xdc fs)) (hq : LV X.K n Qd Q) (q : Qd (.bl (t.b k)) μ) :
    rIsV X.K ks t [v, c] n.H Q := by
  cases r with
  | @ref _ a hl =>
    obtain ⟨_, dxo, h3, h4⟩ := s.cell l a _ hl e1
    refine ⟨a, c, k, dxo, rfl, hc, h3, fun dx hd => ?_, hk, hq.now s (.bl _) q⟩
    cases m with
    | none => rw [show dxo = none from h4] at hd; cases hd
    | some j =>
      obtain ⟨fs, e2⟩ := e2 j rfl
      obtain ⟨dx', rfl, h4⟩ := h4
      cases hd
      obtain ⟨_, us, h5, _, _⟩ := s.cell j dx _ h4 e2
      exact ⟨us, h5⟩
theorem de_isV {ks : List EK} {t : XT} {B : Addr} (C : IsV ks X.K) (ht : t ∈ (ks.map XT.own) ++ [XT.base, XT.val]) (hg : Gl X "isinstance") (hm : X.mg "isinstance" = none) (he : DE X W e fa) (hgT : Gl X x) (hmT : X.mg x = some (.ref B)) (hB : t.v X.K = .ref B) (hd : (x == ("__debug__" : Str)) = false := by decide)
    (hs : starEach [e, .Name x p2] X.env = (false, eval e X.env) :: starEach [.Name x p2] X.env := by rfl) (hs2 : starEach [.Name x p2] X.env = (false, eval (.Name x p2) X.env) :: starEach [] X.env := by rfl) (hpl : (backTo pos (starEach [.Name x p2] X.env)).any (·.1) = false := by rfl) :
    DE X W (.Call (.Name "isinstance" p) [e, .Name x p2] [] pos) (dIsV ks t fa) :=
  PE.imp (pe_callB (call_isV C ht) hg hm (by decide +kernel) (pa_cons he (pa_cons (pe_glob (v := .ref B) hgT hmT rfl hd) pa_nil hs2) hs) (by decide) (by decide) hs hpl) fun σ H Q ⟨n, Γ, μ, Qd, Ed, hH, sr, gr, h, hq, hx⟩ => by
  subst hH
  refine lift_go sr gr h (fun n1 x dx μ1 s1 r1 p1 q1 => ?_) hx
  obtain ⟨l, k, m, rfl, hk, e1, e2, q1⟩ := q1
  exact isv_go r1 p1 (fun u ru => by rw [hB]; exact ru) hk e1 e2 (LV.step hq s1) q1
theorem de_isVE {ks : List EK} (C : IsV ks X.K) (hg : Gl X "isinstance") (hm : X.mg "isinstance" = none) (he : DE X W e fa) (hgT : Gl X "ValueError") (hmT : X.mg "ValueError" = none)
    (hs : starEach [e, .Name "ValueError" p2] X.env = (false, eval e X.env) :: starEach [.Name "ValueError" p2] X.env := by rfl) (hs2 : starEach [.Name "ValueError" p2] X.env = (false, eval (.Name "ValueError" p2) X.env) :: starEach [] X.env := by rfl) (hpl : (backTo pos (starEach [.Name "ValueError" p2] X.env)).any (·.1) = false := by rfl) :
    DE X W (.Call (.Name "isinstance" p) [e, .Name "ValueError" p2] [] pos) (dIsV ks .val fa) :=
  PE.imp (pe_callB (call_isV C (t := .val) (by simp)) hg hm (by decide +kernel) (pa_cons he (pa_cons (pe_bltn (v := .ty "ValueError") hgT hmT (by decide +kernel) rfl (by decide) (by decide)) pa_nil hs2) hs) (by decide) (by decide) hs hpl) fun σ H Q ⟨n, Γ, μ, Qd, Ed, hH, sr, gr, h, hq, hx⟩ => by
  subst hH
  refine lift_go sr gr h (fun n1 x dx μ1 s1 r1 p1 q1 => ?_) hx
  obtain ⟨l, k, m, rfl, hk, e1, e2, q1⟩ := q1
  exact isv_go r1 p1 (fun u ru => ru) hk e1 e2 (LV.step hq s1) q1
end
end DV
namespace K02
open PySem PySem.Spec PyProof.Rows L2 DV
def top (i : Nat) : Stmt := PySem.Challenge.pw_twochoosers_k02_errors.main.body.getD i (.Pass ⟨0, 0, 0, 0⟩)
abbrev s_BadName__init_ : Stmt := inClass (top 2) 0
abbrev s_DuplicateName__init_ : Stmt := inClass (top 3) 0
abbrev s_UnknownName__init_ : Stmt := inClass (top 4) 0
abbrev s_BadCount__init_ : Stmt := inClass (top 5) 0
abbrev s_BadText__init_ : Stmt := inClass (top 6) 0
abbrev s_BadSet__init_ : Stmt := inClass (top 7) 0
abbrev s_BadCell__init_ : Stmt := inClass (top 8) 0
abbrev s_BadSide__init_ : Stmt := inClass (top 9) 0
abbrev s_BadLine__init_ : Stmt := inClass (top 10) 0
abbrev s_BadWish__init_ : Stmt := inClass (top 11) 0
abbrev s_UnlikeOutcomes__init_ : Stmt := inClass (top 12) 0
abbrev s_NotFirm__init_ : Stmt := inClass (top 14) 0
abbrev s_IsFirm__init_ : Stmt := inClass (top 13) 0
abbrev s_IsSmooth__init_ : Stmt := inClass (top 15) 0
abbrev s_NothingToUndo__init_ : Stmt := inClass (top 16) 0
abbrev s_start : Stmt := top 18
abbrev s_draw : Stmt := top 19
abbrev s_l_signs02 : Stmt := top 20
abbrev s_l_kinds02 : Stmt := top 21
abbrev s_l_thing02 : Stmt := top 22
abbrev s_l_all02 : Stmt := top 23
abbrev s_l_named02 : Stmt := top 24
abbrev s_l_keeps02 : Stmt := top 25
abbrev s_law : Stmt := top 26
def FA0 : List He.Fa := [.free "ValueError", .free "len", .free "abs", .free "int", .free "list", .free "range", .free "isinstance", .free "bool", .glo "BadCell", .glo "BadCount", .glo "BadLine", .glo "BadName", .glo "BadSet", .glo "BadSide", .glo "BadText", .glo "BadWish", .glo "DuplicateName", .glo "IsFirm", .glo "IsSmooth", .glo "NotFirm", .glo "NothingToUndo", .glo "UnknownName", .glo "UnlikeOutcomes", .glo "ChooserError", .glo "law", .noat "BadName" "name", .noat "DuplicateName" "name", .noat "UnknownName" "name", .noat "BadCount" "count", .noat "BadText" "text", .noat "BadSet" "value", .noat "BadCell" "value", .noat "BadSide" "word", .noat "BadLine" "number", .noat "BadWish" "value", .noat "UnlikeOutcomes" "names", .noat "NotFirm" "value", .glo "_law_start", .glo "_law_draw", .glo "_law_signs", .glo "_law_kinds", .glo "_law_thing", .glo "_law_all", .glo "_law_named", .glo "_law_keeps"]
def FA : List He.Fa := FA0
def EX0 : List (PySem.W.Frag → Bool) := [xfldB .BadCell "value", xfldB .BadCount "count", xfldB .BadLine "number", xfldB .BadName "name", xfldB .BadSet "value", xfldB .BadSide "word", xfldB .BadText "text", xfldB .BadWish "value", xfldB .DuplicateName "name", xfldB .NotFirm "value", xfldB .UnknownName "name", xfldB .UnlikeOutcomes "names", isvB [.BadName, .DuplicateName, .UnknownName, .BadCount, .BadText, .BadSet, .BadCell, .BadSide, .BadLine, .BadWish, .UnlikeOutcomes, .IsFirm, .IsSmooth, .NotFirm, .NothingToUndo], baseB, errB .BadName, errB .DuplicateName, errB .UnknownName, errB .BadCount, errB .BadText, errB .BadSet, errB .BadCell, errB .BadSide, errB .BadLine, errB .BadWish, errB .UnlikeOutcomes, errB .NotFirm, errB .IsFirm, errB .IsSmooth, errB .NothingToUndo]
def EX : List (PySem.W.Frag → Bool) := EX0
def FN0 : List DefA := [⟨.meth "BadName" "__init__", "BadName.__init__", s_BadName__init_⟩, ⟨.meth "DuplicateName" "__init__", "DuplicateName.__init__", s_DuplicateName__init_⟩, ⟨.meth "UnknownName" "__init__", "UnknownName.__init__", s_UnknownName__init_⟩, ⟨.meth "BadCount" "__init__", "BadCount.__init__", s_BadCount__init_⟩, ⟨.meth "BadText" "__init__", "BadText.__init__", s_BadText__init_⟩, ⟨.meth "BadSet" "__init__", "BadSet.__init__", s_BadSet__init_⟩, ⟨.meth "BadCell" "__init__", "BadCell.__init__", s_BadCell__init_⟩, ⟨.meth "BadSide" "__init__", "BadSide.__init__", s_BadSide__init_⟩, ⟨.meth "BadLine" "__init__", "BadLine.__init__", s_BadLine__init_⟩, ⟨.meth "BadWish" "__init__", "BadWish.__init__", s_BadWish__init_⟩, ⟨.meth "UnlikeOutcomes" "__init__", "UnlikeOutcomes.__init__", s_UnlikeOutcomes__init_⟩, ⟨.meth "NotFirm" "__init__", "NotFirm.__init__", s_NotFirm__init_⟩, ⟨.meth "IsFirm" "__init__", "IsFirm.__init__", s_IsFirm__init_⟩, ⟨.meth "IsSmooth" "__init__", "IsSmooth.__init__", s_IsSmooth__init_⟩, ⟨.meth "NothingToUndo" "__init__", "NothingToUndo.__init__", s_NothingToUndo__init_⟩, ⟨.glo "_law_start", "_law_start", s_start⟩, ⟨.glo "_law_draw", "_law_draw", s_draw⟩, ⟨.glo "_law_signs", "_law_signs", s_l_signs02⟩, ⟨.glo "_law_kinds", "_law_kinds", s_l_kinds02⟩, ⟨.glo "_law_thing", "_law_thing", s_l_thing02⟩, ⟨.glo "_law_all", "_law_all", s_l_all02⟩, ⟨.glo "_law_named", "_law_named", s_l_named02⟩, ⟨.glo "_law_keeps", "_law_keeps", s_l_keeps02⟩, ⟨.glo "law", "law", s_law⟩]
def FN : List DefA := FN0
abbrev R : PySem.W.OpenRow := PySem.W.OpenLaw.row PySem.Challenge.rw_twochoosers_k02_errors
def NM : Names := ⟨[Str.ofString "_law_start", Str.ofString "_law_draw", Str.ofString "_law_signs", Str.ofString "_law_kinds", Str.ofString "_law_thing", Str.ofString "_law_all", Str.ofString "_law_named", Str.ofString "_law_keeps", Str.ofString "law", Str.ofString "ChooserError", Str.ofString "BadCell", Str.ofString "BadCount", Str.ofString "BadLine", Str.ofString "BadName", Str.ofString "BadSet", Str.ofString "BadSide", Str.ofString "BadText", Str.ofString "BadWish", Str.ofString "DuplicateName", Str.ofString "IsFirm", Str.ofString "IsSmooth", Str.ofString "NotFirm", Str.ofString "NothingToUndo", Str.ofString "UnknownName", Str.ofString "UnlikeOutcomes"], [(Str.ofString "BadName", Str.ofString "__init__"), (Str.ofString "DuplicateName", Str.ofString "__init__"), (Str.ofString "UnknownName", Str.ofString "__init__"), (Str.ofString "BadCount", Str.ofString "__init__"), (Str.ofString "BadText", Str.ofString "__init__"), (Str.ofString "BadSet", Str.ofString "__init__"), (Str.ofString "BadCell", Str.ofString "__init__"), (Str.ofString "BadSide", Str.ofString "__init__"), (Str.ofString "BadLine", Str.ofString "__init__"), (Str.ofString "BadWish", Str.ofString "__init__"), (Str.ofString "UnlikeOutcomes", Str.ofString "__init__"), (Str.ofString "NotFirm", Str.ofString "__init__"), (Str.ofString "IsFirm", Str.ofString "__init__"), (Str.ofString "IsSmooth", Str.ofString "__init__"), (Str.ofString "NothingToUndo", Str.ofString "__init__")], []⟩
abbrev hk : PySem.W.Hook := hookA NM FA EX FN
def ob (s : PySem.W.SharedT) : AlA := obsAG NM FA EX FN (HandSHeadRun.getT s)
theorem ob_eq (s : PySem.W.SharedT) : ob s = hk.obs s.abs := obsAG_eq (HandSHeadRun.getT_eq s)
def loose : List Str := ([Str.ofString "ChooserError", Str.ofString "BadName", Str.ofString "DuplicateName", Str.ofString "UnknownName", Str.ofString "BadCount", Str.ofString "BadText", Str.ofString "BadSet", Str.ofString "BadCell", Str.ofString "BadSide", Str.ofString "BadLine", Str.ofString "BadWish", Str.ofString "UnlikeOutcomes", Str.ofString "IsFirm", Str.ofString "NotFirm", Str.ofString "IsSmooth", Str.ofString "NothingToUndo", Str.ofString "_law_start", Str.ofString "_law_draw", Str.ofString "_law_signs", Str.ofString "_law_kinds"] : List Str) ++ ([Str.ofString "_law_thing", Str.ofString "_law_all", Str.ofString "_law_named", Str.ofString "_law_keeps"] : List Str)
noncomputable abbrev o0 (w : World) (os : OsState) := HandSHeadRun.endF (HandSHeadRun.stepQ (HandSHeadRun.denQ HandSHeadRun.tabQ) R.prog w) 9000 R.prog w os
theorem run1 (w : World) (os : OsState) : (o0 w os).map (fun s => HandSHeadRun.looksF R.prog (PySem.W.boot_heap w.params) s.abs) = some (true) := by kernel_rfl
theorem run2 (w : World) (os : OsState) : (o0 w os).map (fun s => HandSHeadRun.seenQ (PySem.W.view R.prog [26]) loose (importedModules R.prog.main.body) (fun s => PySem.W.xlAt (PySem.W.view R.prog [26]) [] s && PySem.W.recOk R.toRowW.records s) s.abs) = some (PySem.W.openGood (PySem.W.view R.prog [26]) loose) := by kernel_rfl
theorem runFA0 (w : World) (os : OsState) : (o0 w os).map (lookFa NM FA0) = some (true) := by kernel_rfl
theorem runEX0 (w : World) (os : OsState) : (o0 w os).map (lookEx NM EX0) = some (true) := by kernel_rfl
theorem runFN0 (w : World) (os : OsState) : (o0 w os).map (lookFn NM FN0) = some (valA FN0) := by kernel_rfl
theorem run (w : World) : HandSHeadRun.RunEq R (PySem.W.view R.prog [26]) hk ob 9000 loose w := fun os =>
  map_pairR (run1 w os) (map_pairR (run2 w os) (obs_join (fa := FA) (ex := EX) (fn := FN) (runFA0 w os) (runEX0 w os) (runFN0 w os)))
end K02
/-! Grids of words: lists of lists of texts, as data or in cells. -/
namespace DV
open PySem PySem.Spec PyProof.Rows L2
/-- a list, as data or in a cell that p allows -/
def See (p : Nat → Prop) (μ : Mu) (d : D) (xs : List D) : Prop := d = .lst xs ∨ ∃ l, d = .ref l ∧ p l ∧ μ[l]? = some (.lst xs)
section
variable {p q : Nat → Prop} {μ ext : Mu} {d : D} {xs : List D}
theorem See.lk (h : See p μ d xs) : lk μ d = .lst xs := by
  rcases h with rfl | ⟨l, rfl, _, e⟩
  · rfl
  · exact lk_cell e
theorem See.imp (h : See p μ d xs) (hp : ∀ l, p l → q l) : See q μ d xs := by
  rcases h with h | ⟨l, h1, h2, h3⟩
  · exact .inl h
  · exact .inr ⟨l, h1, hp l h2, h3⟩
theorem See.app (h : See p μ d xs) (ext : Mu) : See p (μ ++ ext) d xs := by
  rcases h with h | ⟨l, h1, h2, h3⟩
  · exact .inl h
  · exact .inr ⟨l, h1, h2, by rw [List.getElem?_append_left (List.getElem?_eq_some_iff.mp h3).1]; exact h3⟩
theorem See.set (h : See p μ d xs) {l : Nat} (hl : ¬ p l) (c : Cell) : See p (μ.set l c) d xs := by
  rcases h with h | ⟨m, h1, h2, h3⟩
  · exact .inl h
  · exact .inr ⟨m, h1, h2, by rw [List.getElem?_set_ne (show l ≠ m from fun z => hl (z ▸ h2))]; exact h3⟩
end
def GSee (p : Nat → Prop) (μ : Mu) (d : D) (g : List (List Str)) : Prop := ∃ rows, See p μ d rows ∧ rows.length = g.length ∧ ∀ (i : Nat) s, g[i]? = some s → ∃ r, rows[i]? = some r ∧ See p μ r (s.map .str)
def GCell (p : Nat → Prop) (μ : Mu) (d : D) (g : List (List Str)) : Prop := ∃ lo rows, d = .ref lo ∧ p lo ∧ μ[lo]? = some (.lst rows) ∧ rows.length = g.length ∧ ∀ (i : Nat) s, g[i]? = some s → ∃ l, rows[i]? = some (.ref l) ∧ p l ∧ μ[l]? = some (.lst (s.map .str))
def gridD (g : List (List Str)) : D := .lst (g.map fun s => .lst (s.map .str))
section
variable {p q : Nat → Prop} {μ : Mu} {d : D} {g : List (List Str)}
theorem GSee.data : GSee p μ (gridD g) g := ⟨_, .inl rfl, by simp, fun i s e => ⟨_, by rw [List.getElem?_map, e]; rfl, .inl rfl⟩⟩
theorem GSee.imp (h : GSee p μ d g) (hp : ∀ l, p l → q l) : GSee q μ d g := by
  obtain ⟨rows, h1, h2, h3⟩ := h
  exact ⟨rows, h1.imp hp, h2, fun i s e => let ⟨r, a, b⟩ := h3 i s e; ⟨r, a, b.imp hp⟩⟩
theorem GSee.app (h : GSee p μ d g) (ext : Mu) : GSee p (μ ++ ext) d g := by
  obtain ⟨rows, h1, h2, h3⟩ := h
  exact ⟨rows, h1.app ext, h2, fun i s e => let ⟨r, a, b⟩ := h3 i s e; ⟨r, a, b.app ext⟩⟩
theorem GCell.imp (h : GCell p μ d g) (hp : ∀ l, p l → q l) : GCell q μ d g := by
  obtain ⟨lo, rows, h1, h2, h3, h4, h5⟩ := h
  exact ⟨lo, rows, h1, hp _ h2, h3, h4, fun i s e => let ⟨l, a, b, c⟩ := h5 i s e; ⟨l, a, hp _ b, c⟩⟩
theorem get_app {μ ext : Mu} {l : Nat} {c : Cell} (h : μ[l]? = some c) : (μ ++ ext)[l]? = some c := by
  rw [List.getElem?_append_left (List.getElem?_eq_some_iff.mp h).1]; exact h
theorem GCell.app (h : GCell p μ d g) (ext : Mu) : GCell p (μ ++ ext) d g := by
  obtain ⟨lo, rows, h1, h2, h3, h4, h5⟩ := h
  exact ⟨lo, rows, h1, h2, get_app h3, h4, fun i s e => let ⟨l, a, b, c⟩ := h5 i s e; ⟨l, a, b, get_app c⟩⟩
theorem GCell.set (h : GCell p μ d g) {l : Nat} (hl : ¬ p l) (c : Cell) : GCell p (μ.set l c) d g := by
  obtain ⟨lo, rows, h1, h2, h3, h4, h5⟩ := h
  have q : ∀ m, p m → (μ.set l c)[m]? = μ[m]? := fun m hm => List.getElem?_set_ne (show l ≠ m from fun z => hl (z ▸ hm))
  exact ⟨lo, rows, h1, h2, (q _ h2).trans h3, h4, fun i s e => let ⟨l, a, b, c⟩ := h5 i s e; ⟨l, a, b, (q _ b).trans c⟩⟩
theorem GCell.orc (h : GCell p μ d g) {c c' : Nat × Bool} {ρ : Mu} (e : μ = .orc c :: ρ) : GCell p (.orc c' :: ρ) d g := by
  subst e
  obtain ⟨lo, rows, h1, h2, h3, h4, h5⟩ := h
  have q : ∀ (m : Nat) xs, (Cell.orc c :: ρ)[m]? = some (.lst xs) → (Cell.orc c' :: ρ)[m]? = some (.lst xs) := fun m xs e => by
    cases m with
    | zero => cases e
    | succ m => exact e
  exact ⟨lo, rows, h1, h2, q _ _ h3, h4, fun i s e => let ⟨l, a, b, c⟩ := h5 i s e; ⟨l, a, b, q _ _ c⟩⟩
theorem GSee.orc (h : GSee p μ d g) {c c' : Nat × Bool} {ρ : Mu} (e : μ = .orc c :: ρ) : GSee p (.orc c' :: ρ) d g := by
  subst e
  obtain ⟨rows, h1, h2, h3⟩ := h
  have q : ∀ (d : D) xs, See p (Cell.orc c :: ρ) d xs → See p (Cell.orc c' :: ρ) d xs := fun d xs e => by
    rcases e with e | ⟨l, e1, e2, e3⟩
    · exact .inl e
    · refine .inr ⟨l, e1, e2, ?_⟩
      cases l with
      | zero => cases e3
      | succ m => exact e3
  exact ⟨rows, q _ _ h1, h2, fun i s e => let ⟨r, a, b⟩ := h3 i s e; ⟨r, a, q _ _ b⟩⟩
end
def wid (g : List (List Str)) : Nat := (g.headD []).length
/-- a grid of words: at most n lines a side -/
structure GB (W : List Str) (n : Nat) (g : List (List Str)) : Prop where
  h1 : 1 ≤ g.length
  h2 : g.length ≤ n
  w1 : 1 ≤ wid g
  w2 : wid g ≤ n
  eq : ∀ r ∈ g, r.length = wid g
  mem : ∀ r ∈ g, ∀ x ∈ r, x ∈ W
section
variable {W : List Str} {n : Nat} {g : List (List Str)}
theorem GB.mono {m : Nat} (h : GB W n g) (hm : n ≤ m) : GB W m g := ⟨h.h1, Nat.le_trans h.h2 hm, h.w1, Nat.le_trans h.w2 hm, h.eq, h.mem⟩
end
/-! ### evaluation of small things -/
/-- a comprehension that changes nothing: its items told ahead -/
theorem comp_list {src : Option (Nat × List D)} {g : D → Gam → Mu → (Gam → Prop) → Prop} {tt : DTT} {te : DTE} {Γ : Gam} {μ : Mu} {Q : List D → Mu → Prop} (ys : List D) {ds : List D} (hG : Gd src μ) (hl : ds.length = ys.length) (hs : ds.length ≤ sizeLine)
    (step : ∀ (i : Nat) d y, ds[i]? = some d → ys[i]? = some y → ∀ (K1 : D → Mu → Prop) (K2 : Mu → Prop), K1 y μ → g d Γ μ fun Γ1 => tt Γ1 μ (fun b μ2 => cond b (te Γ1 μ2 K1 fun _ _ => False) (K2 μ2)) fun _ _ => False) (q : Q ys μ) : dCompL src g tt te Γ ds [] μ Q := by
  refine comp_inv (fun i acc μ' => acc = ys.take i ∧ μ' = μ) ⟨by simp, rfl⟩ hs ?_ ?_
  · rintro i d acc μ' hd ⟨rfl, rfl⟩
    have hi : i < ys.length := by rw [← hl]; exact (List.getElem?_eq_some_iff.mp hd).1
    refine ⟨hG, fun K1 K2 k1 k2 => step i d ys[i] hd (List.getElem?_eq_getElem hi) K1 K2 (k1 _ _ ⟨?_, rfl⟩)⟩
    rw [List.take_succ, List.getElem?_eq_getElem hi]; rfl
  · rintro acc μ' ⟨rfl, rfl⟩
    rw [hl, List.take_length]
    exact ⟨hG, q⟩
section
variable {α : Type} {ρ r : List α} {x y z w u : α}
theorem get_a0 : (ρ ++ x :: r)[ρ.length]? = some x := by rw [List.getElem?_append_right (Nat.le_refl _)]; simp
theorem get_a1 : (ρ ++ x :: y :: r)[ρ.length + 1]? = some y := by rw [List.getElem?_append_right (by omega), show ρ.length + 1 - ρ.length = 1 from by omega]; rfl
theorem get_a2 : (ρ ++ x :: y :: z :: r)[ρ.length + 2]? = some z := by rw [List.getElem?_append_right (by omega), show ρ.length + 2 - ρ.length = 2 from by omega]; rfl
theorem get_a3 : (ρ ++ x :: y :: z :: w :: r)[ρ.length + 3]? = some w := by rw [List.getElem?_append_right (by omega), show ρ.length + 3 - ρ.length = 3 from by omega]; rfl
theorem set_a0 : (ρ ++ x :: r).set ρ.length u = ρ ++ u :: r := by rw [List.set_append_right _ _ (Nat.le_refl _)]; simp
theorem set_a1 : (ρ ++ x :: y :: r).set (ρ.length + 1) u = ρ ++ x :: u :: r := by rw [List.set_append_right _ _ (by omega), show ρ.length + 1 - ρ.length = 1 from by omega]; rfl
theorem set_a2 : (ρ ++ x :: y :: z :: r).set (ρ.length + 2) u = ρ ++ x :: y :: u :: r := by rw [List.set_append_right _ _ (by omega), show ρ.length + 2 - ρ.length = 2 from by omega]; rfl
theorem set_a3 : (ρ ++ x :: y :: z :: w :: r).set (ρ.length + 3) u = ρ ++ x :: y :: z :: u :: r := by rw [List.set_append_right _ _ (by omega), show ρ.length + 3 - ρ.length = 3 from by omega]; rfl
end
end DV
local macro_rules | `(tactic| walk_at "dv") => `(tactic| try simp only [DV.dSeq, DV.dIf, DV.dOrT, DV.dAndT, DV.dNotT, DV.dTest, DV.dChain, DV.dC, DV.dCall, DV.gLen, DV.dCons, DV.dVar, DV.dNil, DV.dBin, DV.dUn, DV.gNeg, DV.gIn, DV.gIx, DV.dRet, DV.dRetN, DV.dNext, DV.dFor, DV.dIter, DV.dName, DV.lk, DV.dAsg, DV.dDrop, DV.gLst, DV.gTup, DV.gLstM, DV.gAdd, DV.gI, DV.gMod, DV.gMul, DV.gFdiv, DV.gPow, DV.gAbs, DV.gInt, DV.gList, DV.gTuple, DV.dOp, DV.dOpK, DV.dIsi, DV.tyD, DV.gIs, DV.gIsNot, DV.D.isN, DV.dJoin, DV.dCellM, DV.dSetI, DV.dSlice, DV.dPart, DV.dNoPart, DV.dRevA, DV.dFin, DV.dAugI, DV.dComp, DV.wipeG, DV.cName, DV.cPair, DV.dYes, DV.dRange1, DV.dRange2, DV.dAnd, DV.dOr, DV.dNot, DV.dIfE, DV.gEq, DV.gNe, DV.sgn_one, DV.atI_zero, DV.dTruth, DV.truD, DV.dBreak, DV.dCont, DV.gSorted, DV.dSortK, DV.dRevT, DV.gInD, DV.gIsB, DV.gStr, DV.dPop0, DV.dDict, DV.dPairs, DV.keysD, DV.keyOfD, DV.dFinD, DV.dFld, DV.dSetF, DV.dMake, DV.dMethod, DV.dProp, DV.dOwnIx, DV.dNever, DV.dRaise, DV.dRaise0, DV.gMulM, DV.gAddM, DV.gMax2, DV.dPair, DV.gDGet, DV.dSetD, DV.dDict0, DV.dComp2, DV.dSortSC, DV.isIns, DV.insOf,
  List.getElem?_cons_zero, List.getElem?_cons_succ, List.set_cons_zero, List.set_cons_succ, List.map_cons, List.map_nil, List.length_cons, List.length_nil, List.replicate, List.cons_append, List.nil_append, DV.start0, if_true, if_false, Bool.not_true, Bool.not_false, Bool.false_eq_true, Bool.true_and, Bool.and_true, Bool.or_true, Bool.true_or, Bool.false_or, Bool.or_false, eq_self_iff_true, not_true_eq_false, not_false_eq_true, ite_true, ite_false, cond_true, cond_false])
local macro_rules | `(tactic| walk_at "ix") => `(tactic| try simp only [List.length_append, List.length_cons, List.length_nil, List.length_map, Nat.zero_add, Nat.add_zero, Nat.add_assoc, Nat.reduceAdd, List.getElem?_cons_zero, List.getElem?_cons_succ, List.set_cons_zero, List.set_cons_succ, DV.get_a0, DV.get_a1, DV.get_a2, DV.get_a3, DV.set_a0, DV.set_a1, DV.set_a2, DV.set_a3, List.append_assoc, List.cons_append, List.nil_append])
local macro_rules | `(tactic| walk_at "sz") => `(tactic| (first | decide | omega | (rw [L2.sizeLine_eq]; first | decide | omega | (simp only [List.length_map, List.length_cons, List.length_nil, List.length_append]; omega) | (simp; omega) | simp) | (simp; omega)))
namespace DV
open PySem PySem.Spec PyProof.Rows L2
/-- cells with the oracle at their head -/
abbrev O (c : Nat) (ρ : Mu) : Mu := Cell.orc (c, false) :: ρ
structure WOk (W : List Str) : Prop where
  len : W.length = 6
  nd : W.Nodup
  ok : ∀ x ∈ W, validN x = true
/-! flipped -/
end DV
namespace DV
open PySem PySem.Spec PyProof.Rows L2
/-- rows in cells -/
def RowsAt (p : Nat → Prop) (μ : Mu) (acc : List D) (gs : List (List Str)) : Prop := acc.length = gs.length ∧ ∀ (i : Nat) s, gs[i]? = some s → ∃ l, acc[i]? = some (.ref l) ∧ p l ∧ μ[l]? = some (.lst (s.map .str))
section
variable {p q : Nat → Prop} {μ : Mu} {acc : List D} {gs : List (List Str)}
theorem RowsAt.nil : RowsAt p μ [] [] := ⟨rfl, fun i s e => by simp at e⟩
theorem RowsAt.push (h : RowsAt p μ acc gs) {l : Nat} {s : List Str} (hl : p l) (e : μ[l]? = some (.lst (s.map .str))) : RowsAt p μ (acc ++ [.ref l]) (gs ++ [s]) := by
  refine ⟨by simp [h.1], fun i t et => ?_⟩
  rcases get_app1_lt et with ⟨hi, et⟩ | ⟨hi, rfl⟩
  · obtain ⟨m, a, b, c⟩ := h.2 i t et
    exact ⟨m, by rw [List.getElem?_append_left (by rw [h.1]; exact hi)]; exact a, b, c⟩
  · subst hi
    exact ⟨l, by rw [← h.1]; simp, hl, e⟩
end
end DV
namespace DV
open PySem PySem.Spec PyProof.Rows L2
theorem GB.mk' {W : List Str} {n w : Nat} {g : List (List Str)} (h1 : 1 ≤ g.length) (h2 : g.length ≤ n) (w1 : 1 ≤ w) (w2 : w ≤ n) (h : ∀ r ∈ g, r.length = w ∧ ∀ x ∈ r, x ∈ W) : GB W n g := by
  have e : wid g = w := by
    cases g with
    | nil => simp at h1
    | cons s r => exact (h s (by simp)).1
  exact ⟨h1, h2, e ▸ w1, e ▸ w2, fun r hr => e ▸ (h r hr).1, fun r hr => (h r hr).2⟩
end DV
namespace DV
open PySem PySem.Spec PyProof.Rows L2
end DV
namespace DV
open PySem PySem.Spec PyProof.Rows L2
/-- cells: the oracle at their head with c draws left, then ρ as it was, then anything -/
def St (c : Nat) (ρ : Mu) (μ : Mu) : Prop := ∃ ext, μ = O c (ρ ++ ext)
section
variable {c : Nat} {ρ μ : Mu}
theorem St.app (h : St c ρ μ) (e : Mu) : St c ρ (μ ++ e) := by
  obtain ⟨ext, rfl⟩ := h
  exact ⟨ext ++ e, by simp⟩
theorem St.set (h : St c ρ μ) {l : Nat} (hl : ρ.length + 1 ≤ l) (x : Cell) : St c ρ (μ.set l x) := by
  obtain ⟨ext, rfl⟩ := h
  refine ⟨ext.set (l - (ρ.length + 1)) x, ?_⟩
  obtain ⟨k, rfl⟩ : ∃ k, l = k + 1 := ⟨l - 1, by omega⟩
  show Cell.orc (c, false) :: (ρ ++ ext).set k x = _
  rw [List.set_append_right _ _ (by omega), show k - ρ.length = k + 1 - (ρ.length + 1) from by omega]
theorem St.draw (h : St c ρ μ) (c' : Nat) : St c' ρ (μ.set 0 (.orc (c', false))) := by
  obtain ⟨ext, rfl⟩ := h
  exact ⟨ext, rfl⟩
theorem St.len (h : St c ρ μ) : ρ.length + 1 ≤ μ.length := by
  obtain ⟨ext, rfl⟩ := h
  simp only [List.length_cons, List.length_append]; omega
end
theorem GSee.any {p : Nat → Prop} {μ : Mu} {d : D} {g : List (List Str)} (h : GSee p μ d g) : GSee (fun _ => True) μ d g := h.imp fun _ _ => trivial
/-- the parts, in their cell -/
def PartsAt (W : List Str) (lp : Nat) (p : Nat → Prop) (μ : Mu) (parts : List D) : Prop := μ[lp]? = some (.lst parts) ∧ ∀ a ∈ parts, ∃ g, GB W 8 g ∧ GCell p μ a g
theorem PartsAt.keep {W : List Str} {lp : Nat} {p : Nat → Prop} {μ μ' : Mu} {parts parts' : List D} (h : PartsAt W lp p μ parts) (h1 : μ'[lp]? = some (.lst parts')) (h2 : ∀ a ∈ parts', a ∈ parts) (h3 : ∀ a g, GCell p μ a g → GCell p μ' a g) : PartsAt W lp p μ' parts' :=
  ⟨h1, fun a ha => let ⟨g, b, c⟩ := h.2 a (h2 a ha); ⟨g, b, h3 a g c⟩⟩
end DV
namespace DV
open PySem PySem.Spec PyProof.Rows L2
/-! smooth_grid -/
theorem GCell.apart {p : Nat → Prop} {μ : Mu} {lo : Nat} {g : List (List Str)} {rows : List D} (h : GCell p μ (.ref lo) g) (e : μ[lo]? = some (.lst rows)) : rows.length = g.length ∧ p lo ∧ ∀ (i : Nat) s, g[i]? = some s → ∃ l, rows[i]? = some (.ref l) ∧ p l ∧ l ≠ lo ∧ μ[l]? = some (.lst (s.map .str)) := by
  obtain ⟨lo', rows', h1, h2, h3, h4, h5⟩ := h
  cases h1
  rw [e] at h3; cases h3
  refine ⟨h4, h2, fun i s es => ?_⟩
  obtain ⟨l, a, b, c⟩ := h5 i s es
  refine ⟨l, a, b, fun z => ?_, c⟩
  subst z
  rw [e] at c; cases c
  rw [List.getElem?_map] at a
  cases hx : s[i]? with
  | none => rw [hx] at a; cases a
  | some x => rw [hx] at a; cases a
theorem get_ins {α : Type} {xs : List α} {t : Nat} {y : α} (ht : t ≤ xs.length) (i : Nat) : (xs.take t ++ [y] ++ xs.drop t)[i]? = if i < t then xs[i]? else if i = t then some y else xs[i - 1]? := by
  have hl : (xs.take t).length = t := by rw [List.length_take]; omega
  by_cases h1 : i < t
  · rw [if_pos h1, List.append_assoc, List.getElem?_append_left (by omega), List.getElem?_take, if_pos h1]
  · rw [if_neg h1]
    by_cases h2 : i = t
    · subst h2
      rw [if_pos rfl, List.append_assoc, List.getElem?_append_right (by omega), hl]; simp
    · rw [if_neg h2, List.getElem?_append_right (by simp; omega)]
      simp only [List.length_append, hl, List.length_cons, List.length_nil, List.getElem?_drop]
      congr 1
      omega
theorem GCell.ins {p : Nat → Prop} {μ : Mu} {lo l t : Nat} {g : List (List Str)} {rows : List D} {s : List Str} (h : GCell p μ (.ref lo) g) (e : μ[lo]? = some (.lst rows)) (ht : t ≤ g.length) (hl : p l) (hne : l ≠ lo) (el : μ[l]? = some (.lst (s.map .str))) :
    GCell p (μ.set lo (.lst (rows.take t ++ [.ref l] ++ rows.drop t))) (.ref lo) (g.take t ++ [s] ++ g.drop t) := by
  obtain ⟨h1, h2, h3⟩ := h.apart e
  have hlt := (List.getElem?_eq_some_iff.mp e).1
  refine ⟨lo, _, rfl, h2, List.getElem?_set_self hlt, by simp [h1], fun i s' es => ?_⟩
  rw [get_ins ht] at es
  have row : ∀ j, g[j]? = some s' → ∃ m, rows[j]? = some (D.ref m) ∧ p m ∧ (μ.set lo (Cell.lst (rows.take t ++ [D.ref l] ++ rows.drop t)))[m]? = some (Cell.lst (s'.map D.str)) := fun j ej => by
    obtain ⟨m, a, b, c, d⟩ := h3 j s' ej
    exact ⟨m, a, b, by rw [List.getElem?_set_ne (Ne.symm c)]; exact d⟩
  rw [get_ins (by omega)]
  split at es
  · rename_i hi
    rw [if_pos hi]; exact row i es
  · rename_i hi
    rw [if_neg hi]
    split at es
    · rename_i hi2
      cases es
      rw [if_pos hi2]
      exact ⟨l, rfl, hl, by rw [List.getElem?_set_ne (Ne.symm hne)]; exact el⟩
    · rename_i hi2
      rw [if_neg hi2]; exact row (i - 1) es
theorem GB.ins {W : List Str} {g : List (List Str)} {s : List Str} {t : Nat} (h : GB W 8 g) (h8 : g.length < 8) (hs : s.length = wid g) (hm : ∀ x ∈ s, x ∈ W) (ht : t ≤ g.length) : GB W 8 (g.take t ++ [s] ++ g.drop t) := by
  refine GB.mk' (w := wid g) (by simp; omega) (by simp; omega) h.w1 h.w2 fun r hr => ?_
  rcases List.mem_append.mp hr with z | z
  · rcases List.mem_append.mp z with z | z
    · exact ⟨h.eq r (List.mem_of_mem_take z), h.mem r (List.mem_of_mem_take z)⟩
    · rw [List.mem_singleton.mp z]; exact ⟨hs, hm⟩
  · exact ⟨h.eq r (List.mem_of_mem_drop z), h.mem r (List.mem_of_mem_drop z)⟩
/-- a grid in cells that p allows, the cells as they stand -/
structure SGr (c : Nat) (ρ : Mu) (W : List Str) (μ : Mu) (d : D) (g : List (List Str)) : Prop where
  st : St c ρ μ
  b : GB W 8 g
  s : GCell (fun l => ρ.length + 1 ≤ l) μ d g
theorem SGr.draw {c : Nat} {ρ : Mu} {W : List Str} {μ : Mu} {d : D} {g : List (List Str)} (h : SGr c ρ W μ d g) (c' : Nat) : SGr c' ρ W (μ.set 0 (.orc (c', false))) d g := ⟨h.st.draw c', h.b, h.s.set (by omega) _⟩
theorem SGr.app {c : Nat} {ρ : Mu} {W : List Str} {μ : Mu} {d : D} {g : List (List Str)} (h : SGr c ρ W μ d g) (e : Mu) : SGr c ρ W (μ ++ e) d g := ⟨h.st.app e, h.b, h.s.app e⟩
end DV
namespace DV
open PySem PySem.Spec PyProof.Rows L2
end DV
namespace DV
open PySem PySem.Spec PyProof.Rows L2
/-! ### tables -/
/-- the items of a list or a tuple, as data or in a cell -/
def seqOf (μ : Mu) (d : D) : Option (List D) := match lk μ d with
  | .lst xs => some xs
  | .tup xs => some xs
  | _ => none
/-- rows of texts: lists or tuples -/
def TSee (μ : Mu) (d : D) (g : List (List Str)) : Prop := ∃ rows, seqOf μ d = some rows ∧ rows.length = g.length ∧ ∀ (i : Nat) s, g[i]? = some s → ∃ r, rows[i]? = some r ∧ seqOf μ r = some (s.map .str)
theorem GSee.tsee {p : Nat → Prop} {μ : Mu} {d : D} {g : List (List Str)} (h : GSee p μ d g) : TSee μ d g := by
  obtain ⟨rows, h1, h2, h3⟩ := h
  exact ⟨rows, by unfold seqOf; rw [h1.lk], h2, fun i s e => let ⟨r, a, b⟩ := h3 i s e; ⟨r, a, by unfold seqOf; rw [b.lk]⟩⟩
theorem TSee.data {μ : Mu} {g : List (List Str)} : TSee μ (gridD g) g := (GSee.data (p := fun _ => True)).tsee
def outs (g : List (List Str)) : List Str := sortS (g.flatten.foldl addS [])
/-- the rows of a table -/
structure TOk (g : List (List Str)) : Prop where
  h1 : 1 ≤ g.length
  h2 : g.length ≤ 8
  w1 : 1 ≤ wid g
  w2 : wid g ≤ 8
  eq : ∀ r ∈ g, r.length = wid g
  ok : ∀ r ∈ g, ∀ x ∈ r, validN x = true
  few : (outs g).length ≤ 6
theorem addS_mem {acc : List Str} {x y : Str} : y ∈ addS acc x ↔ y ∈ acc ∨ y = x := by
  unfold addS
  split
  · rename_i h
    constructor
    · exact fun z => .inl z
    · rintro (z | rfl)
      · exact z
      · first | exact h | simpa using h
  · simp [or_comm]
theorem fold_mem {l acc : List Str} {y : Str} : y ∈ l.foldl addS acc ↔ y ∈ acc ∨ y ∈ l := by
  induction l generalizing acc with
  | nil => simp
  | cons a l ih => rw [List.foldl_cons, ih, addS_mem, List.mem_cons, or_assoc]
theorem addS_nodup {acc : List Str} {x : Str} (h : acc.Nodup) : (addS acc x).Nodup := by
  unfold addS
  split
  · exact h
  · rename_i hx
    exact List.nodup_cons.mpr ⟨hx, h⟩
theorem fold_nodup {l acc : List Str} (h : acc.Nodup) : (l.foldl addS acc).Nodup := by
  induction l generalizing acc with
  | nil => exact h
  | cons a l ih => exact ih (addS_nodup h)
theorem outs_mem {g : List (List Str)} {x : Str} : x ∈ outs g ↔ ∃ r ∈ g, x ∈ r := by
  unfold outs
  rw [(sortS_perm _).mem_iff, fold_mem]
  simp [List.mem_flatten]
theorem outs_nodup {g : List (List Str)} : (outs g).Nodup := (sortS_perm _).nodup_iff.mpr (fold_nodup List.nodup_nil)
theorem nodup_sub_len {l m : List Str} (h : l.Nodup) (hs : ∀ x ∈ l, x ∈ m) : l.length ≤ m.length := by
  induction l generalizing m with
  | nil => simp
  | cons a l ih =>
    rw [List.nodup_cons] at h
    have ha : a ∈ m := hs a (by simp)
    have := ih h.2 (m := m.erase a) fun x hx => by
      have hne : x ≠ a := fun z => h.1 (z ▸ hx)
      exact (List.mem_erase_of_ne hne).mpr (hs x (by simp [hx]))
    rw [List.length_erase_of_mem ha] at this
    have hp : 0 < m.length := List.length_pos_iff.mpr (fun z => by rw [z] at ha; cases ha)
    rw [List.length_cons]; omega
theorem GB.tok {W : List Str} {g : List (List Str)} (h : GB W 8 g) (hW : WOk W) : TOk g := ⟨h.h1, h.h2, h.w1, h.w2, h.eq, fun r hr x hx => hW.ok x (h.mem r hr x hx), by
  have := nodup_sub_len (outs_nodup (g := g)) (m := W) fun x hx => by
    obtain ⟨r, hr, hx⟩ := outs_mem.mp hx
    exact h.mem r hr x hx
  rw [hW.len] at this; exact this⟩
end DV
local macro_rules | `(tactic| walk_at "dv") => `(tactic| try simp only [DV.dSeq, DV.dIf, DV.dOrT, DV.dAndT, DV.dNotT, DV.dTest, DV.dChain, DV.dC, DV.dCall, DV.gLen, DV.dCons, DV.dVar, DV.dNil, DV.dBin, DV.dUn, DV.gNeg, DV.gIn, DV.gIx, DV.dRet, DV.dRetN, DV.dNext, DV.dFor, DV.dIter, DV.dName, DV.lk, DV.dAsg, DV.dDrop, DV.gLst, DV.gTup, DV.gLstM, DV.gAdd, DV.gI, DV.gMod, DV.gMul, DV.gFdiv, DV.gPow, DV.gAbs, DV.gInt, DV.gList, DV.gTuple, DV.dOp, DV.dOpK, DV.dIsi, DV.tyD, DV.gIs, DV.gIsNot, DV.D.isN, DV.dJoin, DV.dCellM, DV.dSetI, DV.dSlice, DV.dPart, DV.dNoPart, DV.dRevA, DV.dFin, DV.dAugI, DV.dComp, DV.wipeG, DV.cName, DV.cPair, DV.dYes, DV.dRange1, DV.dRange2, DV.dAnd, DV.dOr, DV.dNot, DV.dIfE, DV.gEq, DV.gNe, DV.sgn_one, DV.atI_zero, DV.dTruth, DV.truD, DV.dBreak, DV.dCont, DV.gSorted, DV.dSortK, DV.dRevT, DV.gInD, DV.gIsB, DV.gStr, DV.dPop0, DV.dDict, DV.dPairs, DV.keysD, DV.keyOfD, DV.dFinD, DV.dFld, DV.dSetF, DV.dMake, DV.dMethod, DV.dProp, DV.dOwnIx, DV.dNever, DV.dRaise, DV.dRaise0, DV.gMulM, DV.gAddM, DV.gMax2, DV.dPair, DV.gDGet, DV.dSetD, DV.dDict0, DV.dComp2, DV.dSortSC, DV.isIns, DV.insOf,
  List.getElem?_cons_zero, List.getElem?_cons_succ, List.set_cons_zero, List.set_cons_succ, List.map_cons, List.map_nil, List.length_cons, List.length_nil, List.replicate, Nat.sub_self, List.append_nil, List.cons_append, List.nil_append, DV.start0, if_true, if_false, Bool.not_true, Bool.not_false, Bool.false_eq_true, Bool.true_and, Bool.and_true, Bool.or_true, Bool.true_or, Bool.false_or, Bool.or_false, eq_self_iff_true, not_true_eq_false, not_false_eq_true, ite_true, ite_false, cond_true, cond_false])
namespace DV
open PySem PySem.Spec PyProof.Rows L2
end DV
namespace DV
open PySem PySem.Spec PyProof.Rows L2
end DV
namespace DV
open PySem PySem.Spec PyProof.Rows L2
def cell (g : List (List Str)) (i j : Nat) : Str := (g.getD i []).getD j Str.empty
end DV
namespace DV
open PySem PySem.Spec PyProof.Rows L2
/-! the law's own look -/
end DV
namespace DV
open PySem PySem.Spec PyProof.Rows L2
end DV
namespace DV
open PySem PySem.Spec PyProof.Rows L2
/-! checks that say no, step by step in small terms (the kernel never looks into what comes behind) -/
/-- a value, the state as it was -/
def EV (f : DTE) (d : D) (Γ : Gam) (μ : Mu) : Prop := ∀ (R : D → Mu → Prop) (E : Exn → Mu → Prop), R d μ → f Γ μ R E
def SY (b : Bool) (t : DTT) (Γ : Gam) (μ : Mu) : Prop := ∀ (R : Bool → Mu → Prop) (E : Exn → Mu → Prop), R b μ → t Γ μ R E
section
variable {f : DTE} {a b t : DTT} {Γ : Gam} {μ : Mu} {S T : DTS} {De : DEnds} {v : Bool} {d : D}
theorem SY.test (h : EV f (.bl v) Γ μ) : SY v (dTest f) Γ μ := fun R E q => h _ E q
theorem SY.nott (h : SY (!v) t Γ μ) : SY v (dNotT t) Γ μ := fun R E q => h _ E (by rw [Bool.not_not]; exact q)
theorem SY.or (h1 : SY false a Γ μ) (h2 : SY v b Γ μ) : SY v (dOrT a b) Γ μ := fun R E q => h1 _ E (h2 R E q)
theorem skip0 (h : SY false t Γ μ) (k : T De Γ μ) : dIf t S T De Γ μ := h _ _ k
/-- a check that says no is passed -/
theorem skip (h : SY false t Γ μ) (k : T De Γ μ) : dSeq (dIf t S dNext) T De Γ μ := h _ _ k
theorem take {U : DTS} (h : SY true t Γ μ) (k : S { De with nx := T De } Γ μ) : dSeq (dIf t S U) T De Γ μ := h _ _ k
theorem EV.var {i : Nat} (h : Γ[i]? = some (some d)) : EV (dVar i) d Γ μ := fun R E q => by unfold dVar; rw [h]; exact q
theorem EV.c : EV (dC d) d Γ μ := fun R E q => q
theorem EV.bin {f g : DTE} {x y z : D} {op : G2} (h1 : EV f x Γ μ) (h2 : EV g y Γ μ) (h : ∀ R : D → Mu → Prop, R z μ → op x y μ R) : EV (dBin op f g) z Γ μ := fun R E q => h1 _ E (h2 _ E (h R q))
end
end DV
namespace DV
open PySem PySem.Spec PyProof.Rows L2
/-! the law's state, the things, the errors as cells -/
def OM (c : Nat) (ρ : Mu) : Mu := .orc (c, true) :: ρ
theorem draw_OM {c : Nat} {ρ : Mu} {m : Int} {Q : D → Mu → Prop} {E : Exn → Mu → Prop} (hc : 0 < c) (hm : 0 < m) (hm2 : m.natAbs < 2 ^ 60) (q : ∀ c' d, c ≤ c' + 1 → 0 ≤ d → d < m → Q (.int d) (OM c' ρ)) : S_draw [.ref 0, .int m] (OM c ρ) Q E :=
  ⟨0, c - 1, m, rfl, by show some (Cell.orc (c, true)) = _; rw [show c - 1 + 1 = c from by omega], hm, Nat.lt_of_lt_of_le (PySem.Flt.log2_lt_of (by decide) hm2) (by decide), fun d h1 h2 => q _ d (by omega) h1 h2⟩
def ALL : List EK := [.BadName, .DuplicateName, .UnknownName, .BadCount, .BadText, .BadSet, .BadCell, .BadSide, .BadLine, .BadWish, .UnlikeOutcomes, .NotFirm, .IsFirm, .IsSmooth, .NothingToUndo]
/-! expressions that leave the cells as they are -/
def EA (fr : DTA) (ds : List D) (Γ : Gam) (μ : Mu) : Prop := ∀ (R : List D → Mu → Prop) (E : Exn → Mu → Prop), R ds μ → fr Γ μ R E
section
variable {f g : DTE} {fr : DTA} {d r : D} {ds : List D} {Γ : Gam} {μ : Mu} {S : DSp} {De : DEnds} {T : DTS}
theorem EA.nil : EA dNil [] Γ μ := fun R E q => q
theorem EA.cons (h : EV f d Γ μ) (t : EA fr ds Γ μ) : EA (dCons f fr) (d :: ds) Γ μ := fun R E q => h _ E (t _ E q)
theorem EV.op (h : EA fr ds Γ μ) (hs : ∀ (R : D → Mu → Prop) (E : Exn → Mu → Prop), R r μ → S ds μ R E) : EV (dOp S fr) r Γ μ := fun R E q => h _ E (hs R E q)
theorem EV.lst (t : EA fr ds Γ μ) (hl : ds.length ≤ sizeLine) : EV (dCall gLst fr) (.lst ds) Γ μ := fun R E q => t _ E ⟨hl, q⟩
theorem EV.tup (t : EA fr ds Γ μ) (hl : ds.length ≤ sizeLine) : EV (dCall gTup fr) (.tup ds) Γ μ := fun R E q => t _ E ⟨hl, q⟩
theorem EV.add {xs ys : List D} (h1 : EV f (.lst xs) Γ μ) (h2 : EV g (.lst ys) Γ μ) (hl : xs.length + ys.length ≤ sizeLine) : EV (dBin gAdd f g) (.lst (xs ++ ys)) Γ μ := EV.bin h1 h2 fun R q => ⟨hl, q⟩
theorem EV.ixL {xs : List D} {i : Nat} (h1 : EV f (.lst xs) Γ μ) (h2 : EV g (.int (i : Int)) Γ μ) (e : xs[i]? = some d) : EV (dBin gIx f g) d Γ μ := EV.bin h1 h2 fun R q => by
  show (match atI xs (i : Int) with | some d => R d μ | none => False)
  rw [atI_nat' (by omega) (by rw [Int.toNat_natCast]; exact e)]
  exact q
theorem seq_ev {i : Nat} (h : EV f d Γ μ) (k : T De (Γ.set i (some d)) μ) : dSeq (dAsg f (dName i)) T De Γ μ := h _ _ k
theorem ret_ev (h : EV f d Γ μ) (k : De.rt d μ) : dRet f De Γ μ := h _ _ k
/-- isinstance of an error -/
theorem EV.isv {ks : List EK} {t : XT} {l : Nat} {k : EK} {m : Option Nat} (h : EV f (.ref l) Γ μ) (hk : k ∈ ks) (e1 : μ[l]? = some (.exo k m)) (e2 : ∀ j, m = some j → ∃ fs, μ[j]? = some (.xdc fs)) : EV (dIsV ks t f) (.bl (t.b k)) Γ μ := fun R E q => h _ E ⟨l, k, m, rfl, hk, e1, e2, q⟩
theorem EV.xv {k : EK} {fl : Str} {l m : Nat} {fs : List (Str × D)} (h : EV f (.ref l) Γ μ) (e1 : μ[l]? = some (.exo k (some m))) (e2 : μ[m]? = some (.xdc fs)) (e3 : fs.lookup fl = some d) : EV (dXV k fl f) d Γ μ := fun R E q => h _ E ⟨l, m, fs, d, rfl, e1, e2, e3, q⟩
end
theorem szl {ys : List D} (h2 : ys.length ≤ 100) : ys.length ≤ sizeLine := by rw [sizeLine_eq]; omega
theorem sz91 {xs ys : List D} (h : xs.length ≤ 100) (h2 : ys.length ≤ 100) : xs.length + ys.length ≤ sizeLine := by rw [sizeLine_eq]; omega
/-! _law_kinds -/
def S_l_kinds02 : DSp := fun ds μ Q _ => ∃ l k m, ds = [.ref l] ∧ μ[l]? = some (.exo k m) ∧ (∀ j, m = some j → ∃ fs, μ[j]? = some (.xdc fs)) ∧ Q (.lst (ALL.map fun t => .bl (decide (k = t)))) μ
def t_l_kinds02_4 : DTS := dRet (dBin gAdd (dVar 1) (dCall gLst (dCons (dIsV [.BadName, .DuplicateName, .UnknownName, .BadCount, .BadText, .BadSet, .BadCell, .BadSide, .BadLine, .BadWish, .UnlikeOutcomes, .IsFirm, .IsSmooth, .NotFirm, .NothingToUndo] (.own .IsFirm) (dVar 0)) (dCons (dIsV [.BadName, .DuplicateName, .UnknownName, .BadCount, .BadText, .BadSet, .BadCell, .BadSide, .BadLine, .BadWish, .UnlikeOutcomes, .IsFirm, .IsSmooth, .NotFirm, .NothingToUndo] (.own .IsSmooth) (dVar 0)) (dCons (dIsV [.BadName, .DuplicateName, .UnknownName, .BadCount, .BadText, .BadSet, .BadCell, .BadSide, .BadLine, .BadWish, .UnlikeOutcomes, .IsFirm, .IsSmooth, .NotFirm, .NothingToUndo] (.own .NothingToUndo) (dVar 0)) (dNil))))))
def t_l_kinds02_3 : DTS := dSeq (dAsg (dBin gAdd (dVar 1) (dCall gLst (dCons (dIsV [.BadName, .DuplicateName, .UnknownName, .BadCount, .BadText, .BadSet, .BadCell, .BadSide, .BadLine, .BadWish, .UnlikeOutcomes, .IsFirm, .IsSmooth, .NotFirm, .NothingToUndo] (.own .BadWish) (dVar 0)) (dCons (dIsV [.BadName, .DuplicateName, .UnknownName, .BadCount, .BadText, .BadSet, .BadCell, .BadSide, .BadLine, .BadWish, .UnlikeOutcomes, .IsFirm, .IsSmooth, .NotFirm, .NothingToUndo] (.own .UnlikeOutcomes) (dVar 0)) (dCons (dIsV [.BadName, .DuplicateName, .UnknownName, .BadCount, .BadText, .BadSet, .BadCell, .BadSide, .BadLine, .BadWish, .UnlikeOutcomes, .IsFirm, .IsSmooth, .NotFirm, .NothingToUndo] (.own .NotFirm) (dVar 0)) (dNil)))))) (dName 1)) (t_l_kinds02_4)
def t_l_kinds02_2 : DTS := dSeq (dAsg (dBin gAdd (dVar 1) (dCall gLst (dCons (dIsV [.BadName, .DuplicateName, .UnknownName, .BadCount, .BadText, .BadSet, .BadCell, .BadSide, .BadLine, .BadWish, .UnlikeOutcomes, .IsFirm, .IsSmooth, .NotFirm, .NothingToUndo] (.own .BadCell) (dVar 0)) (dCons (dIsV [.BadName, .DuplicateName, .UnknownName, .BadCount, .BadText, .BadSet, .BadCell, .BadSide, .BadLine, .BadWish, .UnlikeOutcomes, .IsFirm, .IsSmooth, .NotFirm, .NothingToUndo] (.own .BadSide) (dVar 0)) (dCons (dIsV [.BadName, .DuplicateName, .UnknownName, .BadCount, .BadText, .BadSet, .BadCell, .BadSide, .BadLine, .BadWish, .UnlikeOutcomes, .IsFirm, .IsSmooth, .NotFirm, .NothingToUndo] (.own .BadLine) (dVar 0)) (dNil)))))) (dName 1)) (t_l_kinds02_3)
def t_l_kinds02_1 : DTS := dSeq (dAsg (dBin gAdd (dVar 1) (dCall gLst (dCons (dIsV [.BadName, .DuplicateName, .UnknownName, .BadCount, .BadText, .BadSet, .BadCell, .BadSide, .BadLine, .BadWish, .UnlikeOutcomes, .IsFirm, .IsSmooth, .NotFirm, .NothingToUndo] (.own .BadCount) (dVar 0)) (dCons (dIsV [.BadName, .DuplicateName, .UnknownName, .BadCount, .BadText, .BadSet, .BadCell, .BadSide, .BadLine, .BadWish, .UnlikeOutcomes, .IsFirm, .IsSmooth, .NotFirm, .NothingToUndo] (.own .BadText) (dVar 0)) (dCons (dIsV [.BadName, .DuplicateName, .UnknownName, .BadCount, .BadText, .BadSet, .BadCell, .BadSide, .BadLine, .BadWish, .UnlikeOutcomes, .IsFirm, .IsSmooth, .NotFirm, .NothingToUndo] (.own .BadSet) (dVar 0)) (dNil)))))) (dName 1)) (t_l_kinds02_2)
def t_l_kinds02 : DTS := dSeq (dAsg (dCall gLst (dCons (dIsV [.BadName, .DuplicateName, .UnknownName, .BadCount, .BadText, .BadSet, .BadCell, .BadSide, .BadLine, .BadWish, .UnlikeOutcomes, .IsFirm, .IsSmooth, .NotFirm, .NothingToUndo] (.own .BadName) (dVar 0)) (dCons (dIsV [.BadName, .DuplicateName, .UnknownName, .BadCount, .BadText, .BadSet, .BadCell, .BadSide, .BadLine, .BadWish, .UnlikeOutcomes, .IsFirm, .IsSmooth, .NotFirm, .NothingToUndo] (.own .DuplicateName) (dVar 0)) (dCons (dIsV [.BadName, .DuplicateName, .UnknownName, .BadCount, .BadText, .BadSet, .BadCell, .BadSide, .BadLine, .BadWish, .UnlikeOutcomes, .IsFirm, .IsSmooth, .NotFirm, .NothingToUndo] (.own .UnknownName) (dVar 0)) (dNil))))) (dName 1)) (t_l_kinds02_1)
theorem rd_l_kinds02 {n1 n2 : Str} : ∀ ds μ Q E, S_l_kinds02 ds μ Q E → t_l_kinds02 (dFn μ Q E) (start0 [n1, n2] ds) μ := by
  rintro _ μ Q E ⟨l, k, m, rfl, e1, e2, q⟩
  have iv : ∀ {t : XT} {Γ : Gam}, Γ[0]? = some (some (.ref l)) → EV (dIsV [.BadName, .DuplicateName, .UnknownName, .BadCount, .BadText, .BadSet, .BadCell, .BadSide, .BadLine, .BadWish, .UnlikeOutcomes, .IsFirm, .IsSmooth, .NotFirm, .NothingToUndo] t (dVar 0)) (.bl (t.b k)) Γ μ := fun h => EV.isv (EV.var h) (by cases k <;> decide) e1 e2
  unfold t_l_kinds02
  refine seq_ev (EV.lst (EA.cons (iv rfl) (EA.cons (iv rfl) (EA.cons (iv rfl) EA.nil))) (szl (by simp))) ?_
  unfold t_l_kinds02_1
  refine seq_ev (EV.add (EV.var rfl) (EV.lst (EA.cons (iv rfl) (EA.cons (iv rfl) (EA.cons (iv rfl) EA.nil))) (szl (by simp))) (sz91 (by simp) (by simp))) ?_
  unfold t_l_kinds02_2
  refine seq_ev (EV.add (EV.var rfl) (EV.lst (EA.cons (iv rfl) (EA.cons (iv rfl) (EA.cons (iv rfl) EA.nil))) (szl (by simp))) (sz91 (by simp) (by simp))) ?_
  unfold t_l_kinds02_3
  refine seq_ev (EV.add (EV.var rfl) (EV.lst (EA.cons (iv rfl) (EA.cons (iv rfl) (EA.cons (iv rfl) EA.nil))) (szl (by simp))) (sz91 (by simp) (by simp))) ?_
  unfold t_l_kinds02_4
  refine ret_ev (EV.add (EV.var rfl) (EV.lst (EA.cons (iv rfl) (EA.cons (iv rfl) (EA.cons (iv rfl) EA.nil))) (szl (by simp))) (sz91 (by simp) (by simp))) ?_
  exact FnEnd.here q
/-! all of them made -/
def mkC (b : Nat) (t0 t1 t2 t3 t4 t5 t6 t7 t8 t9 t10 t11 : D) : List Cell :=
  [.xdc [("name", t0)], .exo .BadName (some b), .xdc [("name", t1)], .exo .DuplicateName (some (b + 2)), .xdc [("name", t2)], .exo .UnknownName (some (b + 4)),
   .xdc [("count", t3)], .exo .BadCount (some (b + 6)), .xdc [("text", t4)], .exo .BadText (some (b + 8)), .xdc [("value", t5)], .exo .BadSet (some (b + 10)),
   .xdc [("value", t6)], .exo .BadCell (some (b + 12)), .xdc [("word", t7)], .exo .BadSide (some (b + 14)), .xdc [("number", t8)], .exo .BadLine (some (b + 16)),
   .xdc [("value", t9)], .exo .BadWish (some (b + 18)), .xdc [("names", t10)], .exo .UnlikeOutcomes (some (b + 20)), .xdc [("value", t11)], .exo .NotFirm (some (b + 22)),
   .exo .IsFirm none, .exo .IsSmooth none, .exo .NothingToUndo none]
def refX (b : Nat) : List D := [.ref (b + 1), .ref (b + 3), .ref (b + 5), .ref (b + 7), .ref (b + 9), .ref (b + 11), .ref (b + 13), .ref (b + 15), .ref (b + 17), .ref (b + 19), .ref (b + 21), .ref (b + 23), .ref (b + 24), .ref (b + 25), .ref (b + 26)]
def S_l_all02 : DSp := fun ds μ Q _ => ∃ t0 t1 t2 t3 t4 t5 t6 t7 t8 t9 t10 t11, ds = [.lst [t0, t1, t2, t3, t4, t5, t6, t7, t8, t9, t10, t11]] ∧ Q (.lst (refX μ.length)) (μ ++ mkC μ.length t0 t1 t2 t3 t4 t5 t6 t7 t8 t9 t10 t11)
def t_l_all02_2 : DTS := dRet (dBin gAdd (dVar 1) (dCall gLst (dCons (dMkX .NotFirm "value" (dCons (dBin gIx (dVar 0) (dC (.int 11))) dNil)) (dCons (dMkX0 .IsFirm) (dCons (dMkX0 .IsSmooth) (dCons (dMkX0 .NothingToUndo) (dNil)))))))
def t_l_all02_1 : DTS := dSeq (dAsg (dBin gAdd (dVar 1) (dCall gLst (dCons (dMkX .BadCell "value" (dCons (dBin gIx (dVar 0) (dC (.int 6))) dNil)) (dCons (dMkX .BadSide "word" (dCons (dBin gIx (dVar 0) (dC (.int 7))) dNil)) (dCons (dMkX .BadLine "number" (dCons (dBin gIx (dVar 0) (dC (.int 8))) dNil)) (dCons (dMkX .BadWish "value" (dCons (dBin gIx (dVar 0) (dC (.int 9))) dNil)) (dCons (dMkX .UnlikeOutcomes "names" (dCons (dBin gIx (dVar 0) (dC (.int 10))) dNil)) (dNil)))))))) (dName 1)) (t_l_all02_2)
def t_l_all02 : DTS := dSeq (dAsg (dCall gLst (dCons (dMkX .BadName "name" (dCons (dBin gIx (dVar 0) (dC (.int 0))) dNil)) (dCons (dMkX .DuplicateName "name" (dCons (dBin gIx (dVar 0) (dC (.int 1))) dNil)) (dCons (dMkX .UnknownName "name" (dCons (dBin gIx (dVar 0) (dC (.int 2))) dNil)) (dCons (dMkX .BadCount "count" (dCons (dBin gIx (dVar 0) (dC (.int 3))) dNil)) (dCons (dMkX .BadText "text" (dCons (dBin gIx (dVar 0) (dC (.int 4))) dNil)) (dCons (dMkX .BadSet "value" (dCons (dBin gIx (dVar 0) (dC (.int 5))) dNil)) (dNil)))))))) (dName 1)) (t_l_all02_1)
section
variable {Γ : Gam} {μ : Mu} {R : List D → Mu → Prop} {E : Exn → Mu → Prop} {fr : DTA} {f : DTE} {d : D} {k : EK} {fl : Str}
/-- an argument that makes an error -/
theorem ax (h : EV f d Γ μ) (q : fr Γ (μ ++ [.xdc [(fl, d)], .exo k (some μ.length)]) (fun xs μ2 => R (.ref (μ.length + 1) :: xs) μ2) E) : dCons (dMkX k fl (dCons f dNil)) fr Γ μ R E := h _ E ⟨d, rfl, q⟩
theorem ax0 (q : fr Γ (μ ++ [.exo k none]) (fun xs μ2 => R (.ref μ.length :: xs) μ2) E) : dCons (dMkX0 k) fr Γ μ R E := q
end
theorem rd_l_all02 {n1 n2 : Str} : ∀ ds μ Q E, S_l_all02 ds μ Q E → t_l_all02 (dFn μ Q E) (start0 [n1, n2] ds) μ := by
  rintro _ μ Q E ⟨t0, t1, t2, t3, t4, t5, t6, t7, t8, t9, t10, t11, rfl, q⟩
  have ix : ∀ {Γ : Gam} {μ : Mu} {i : Nat} {d : D}, Γ[0]? = some (some (.lst [t0, t1, t2, t3, t4, t5, t6, t7, t8, t9, t10, t11])) → [t0, t1, t2, t3, t4, t5, t6, t7, t8, t9, t10, t11][i]? = some d → EV (dBin gIx (dVar 0) (dC (.int (i : Int)))) d Γ μ := fun h e => EV.ixL (EV.var h) EV.c e
  unfold t_l_all02
  rw [dSeq, dAsg]
  refine ax (ix (i := 0) rfl rfl) (ax (ix (i := 1) rfl rfl) (ax (ix (i := 2) rfl rfl) (ax (ix (i := 3) rfl rfl) (ax (ix (i := 4) rfl rfl) (ax (ix (i := 5) rfl rfl) ?_)))))
  refine ⟨szl (by simp), ?_⟩
  dsimp only [dName]
  unfold t_l_all02_1
  rw [dSeq, dAsg, dBin]
  refine EV.var (i := 1) rfl _ _ ?_
  refine ax (ix (i := 6) rfl rfl) (ax (ix (i := 7) rfl rfl) (ax (ix (i := 8) rfl rfl) (ax (ix (i := 9) rfl rfl) (ax (ix (i := 10) rfl rfl) ?_))))
  refine ⟨szl (by simp), sz91 (by simp) (by simp), ?_⟩
  dsimp only [dName]
  unfold t_l_all02_2
  rw [dRet, dBin]
  refine EV.var (i := 1) rfl _ _ ?_
  refine ax (ix (i := 11) rfl rfl) (ax0 (ax0 (ax0 ?_)))
  refine ⟨szl (by simp), sz91 (by simp) (by simp), ?_⟩
  refine FnEnd.here ?_
  simp only [refX, mkC] at q
  simpa [List.append_assoc, Nat.add_assoc] using q
abbrev S_l_named02 : DSp := S_l_all02
def t_l_named02_3 : DTS := dRet (dBin gAdd (dVar 1) (dCall gLst (dCons (dMkX0 .IsFirm) (dCons (dMkX0 .IsSmooth) (dCons (dMkX0 .NothingToUndo) (dNil))))))
def t_l_named02_2 : DTS := dSeq (dAsg (dBin gAdd (dVar 1) (dCall gLst (dCons (dMkX .BadLine "number" (dCons (dBin gIx (dVar 0) (dC (.int 8))) dNil)) (dCons (dMkX .BadWish "value" (dCons (dBin gIx (dVar 0) (dC (.int 9))) dNil)) (dCons (dMkX .UnlikeOutcomes "names" (dCons (dBin gIx (dVar 0) (dC (.int 10))) dNil)) (dCons (dMkX .NotFirm "value" (dCons (dBin gIx (dVar 0) (dC (.int 11))) dNil)) (dNil))))))) (dName 1)) (t_l_named02_3)
def t_l_named02_1 : DTS := dSeq (dAsg (dBin gAdd (dVar 1) (dCall gLst (dCons (dMkX .BadText "text" (dCons (dBin gIx (dVar 0) (dC (.int 4))) dNil)) (dCons (dMkX .BadSet "value" (dCons (dBin gIx (dVar 0) (dC (.int 5))) dNil)) (dCons (dMkX .BadCell "value" (dCons (dBin gIx (dVar 0) (dC (.int 6))) dNil)) (dCons (dMkX .BadSide "word" (dCons (dBin gIx (dVar 0) (dC (.int 7))) dNil)) (dNil))))))) (dName 1)) (t_l_named02_2)
def t_l_named02 : DTS := dSeq (dAsg (dCall gLst (dCons (dMkX .BadName "name" (dCons (dBin gIx (dVar 0) (dC (.int 0))) dNil)) (dCons (dMkX .DuplicateName "name" (dCons (dBin gIx (dVar 0) (dC (.int 1))) dNil)) (dCons (dMkX .UnknownName "name" (dCons (dBin gIx (dVar 0) (dC (.int 2))) dNil)) (dCons (dMkX .BadCount "count" (dCons (dBin gIx (dVar 0) (dC (.int 3))) dNil)) (dNil)))))) (dName 1)) (t_l_named02_1)
theorem rd_l_named02 {n1 n2 : Str} : ∀ ds μ Q E, S_l_all02 ds μ Q E → t_l_named02 (dFn μ Q E) (start0 [n1, n2] ds) μ := by
  rintro _ μ Q E ⟨t0, t1, t2, t3, t4, t5, t6, t7, t8, t9, t10, t11, rfl, q⟩
  have ix : ∀ {Γ : Gam} {μ : Mu} {i : Nat} {d : D}, Γ[0]? = some (some (.lst [t0, t1, t2, t3, t4, t5, t6, t7, t8, t9, t10, t11])) → [t0, t1, t2, t3, t4, t5, t6, t7, t8, t9, t10, t11][i]? = some d → EV (dBin gIx (dVar 0) (dC (.int (i : Int)))) d Γ μ := fun h e => EV.ixL (EV.var h) EV.c e
  unfold t_l_named02
  rw [dSeq, dAsg]
  refine ax (ix (i := 0) rfl rfl) (ax (ix (i := 1) rfl rfl) (ax (ix (i := 2) rfl rfl) (ax (ix (i := 3) rfl rfl) ?_)))
  refine ⟨szl (by simp), ?_⟩
  dsimp only [dName]
  unfold t_l_named02_1
  rw [dSeq, dAsg, dBin]
  refine EV.var (i := 1) rfl _ _ ?_
  refine ax (ix (i := 4) rfl rfl) (ax (ix (i := 5) rfl rfl) (ax (ix (i := 6) rfl rfl) (ax (ix (i := 7) rfl rfl) ?_)))
  refine ⟨szl (by simp), sz91 (by simp) (by simp), ?_⟩
  dsimp only [dName]
  unfold t_l_named02_2
  rw [dSeq, dAsg, dBin]
  refine EV.var (i := 1) rfl _ _ ?_
  refine ax (ix (i := 8) rfl rfl) (ax (ix (i := 9) rfl rfl) (ax (ix (i := 10) rfl rfl) (ax (ix (i := 11) rfl rfl) ?_)))
  refine ⟨szl (by simp), sz91 (by simp) (by simp), ?_⟩
  dsimp only [dName]
  unfold t_l_named02_3
  rw [dRet, dBin]
  refine EV.var (i := 1) rfl _ _ ?_
  refine ax0 (ax0 (ax0 ?_))
  refine ⟨szl (by simp), sz91 (by simp) (by simp), ?_⟩
  refine FnEnd.here ?_
  simp only [refX, mkC] at q
  simpa [List.append_assoc, Nat.add_assoc] using q
end DV
namespace DV
open PySem PySem.Spec PyProof.Rows L2
theorem deqW_okn {k : Nat} {d : D} (h : D.okn k d = true) : deqW k d d = some true := by
  have e : PyData.eqv (D.py k d) (D.py k d) = true := SeqAt.eqv_refl _ (okn_lay k d h).1
  cases k <;> (unfold deqW; rw [h]; simp only [Bool.and_self, cond_true, e])
theorem dct_refl {k : Nat} {f : D → D → Option Bool} {b : List (Key × D)} (hf : ∀ kv ∈ b, f kv.2 kv.2 = some true) : ∀ (a : List (Key × D)), (∀ kv ∈ a, lookD b kv.1 = some kv.2) → (∀ kv ∈ a, kv ∈ b) → dctT f b a = some true
  | [], _, _ => rfl
  | (x, d) :: a, h, hs => by
    have h1 : lookD b x = some d := h (x, d) List.mem_cons_self
    have h2 : f d d = some true := hf (x, d) (hs _ List.mem_cons_self)
    unfold dctT
    rw [h1]
    dsimp only
    rw [h2, dct_refl (k := k) hf a (fun kv hk => h kv (List.mem_cons_of_mem _ hk)) (fun kv hk => hs kv (List.mem_cons_of_mem _ hk))]
    rfl
theorem allT_refl {f : D → D → Option Bool} : ∀ (xs : List D), (∀ d ∈ xs, f d d = some true) → allT f xs xs = some true
  | [], _ => rfl
  | x :: xs, h => by
    unfold allT
    rw [h x List.mem_cons_self, allT_refl xs fun d hd => h d (List.mem_cons_of_mem _ hd)]
    rfl
theorem deqW_lst {k : Nat} {xs : List D} (h : ∀ d ∈ xs, deqW k d d = some true) : deqW (k + 1) (.lst xs) (.lst xs) = some true := by
  cases ho : D.okn (k + 1) (.lst xs) with
  | true => exact deqW_okn ho
  | false =>
    unfold deqW
    rw [ho]
    simp only [Bool.and_self, cond_false]
    rw [if_neg (fun z => z.1 rfl)]
    simp only [if_true]
    exact allT_refl xs h
theorem goodF_frz {μ : Mu} : ∀ (k : Nat) (d : D), goodF k d = true → frz μ k d = d := by
  intro k
  induction k with
  | zero => intro d h; rfl
  | succ k ih =>
    intro d h
    have e : frz μ (k + 1) d = (match lk μ d with | .lst ds => D.lst (ds.map (frz μ k)) | .tup ds => .tup (ds.map (frz μ k)) | .dct kvs => .dct (kvs.map fun p => (p.1, frz μ k p.2)) | e => e) := rfl
    rw [e]
    cases d <;> simp only [goodF, Bool.false_eq_true] at h <;> simp only [lk] <;> first
      | rfl
      | (congr 1
         rw [List.all_eq_true] at h
         exact (List.map_congr_left fun x hx => ih x (h x hx)).trans (List.map_id _))
      | (congr 1
         rw [List.all_eq_true] at h
         refine (List.map_congr_left fun x hx => ?_).trans (List.map_id _)
         show (x.1, frz μ k x.2) = x
         rw [ih x.2 (h x hx)])
end DV
namespace DV
open PySem PySem.Spec PyProof.Rows L2
/-! signs, a thing -/
def signs02 : Str := Str.ofString " !\"#$&'()*+,-./0123456789:;<=>?@ABCDEFGHIJKLMNOPQRSTUVWXYZ[\\]^_`" ++ Str.ofString "abcdefghijklmnopqrstuvwxyz{|}~\n"
theorem signs_asc : asc signs02 ∧ signs02.length ≤ 100 ∧ 1 ≤ signs02.length := by
  refine ⟨?_, ?_, ?_⟩
  · unfold asc; decide +kernel
  · decide +kernel
  · decide +kernel
def S_l_signs02 : DSp := fun ds μ Q _ => ds = [] ∧ Q (.str signs02) μ
def t_l_signs02 : DTS := dSeq (dAsg (dC (.str " !\"#$&'()*+,-./0123456789:;<=>?@ABCDEFGHIJKLMNOPQRSTUVWXYZ[\\]^_`")) (dName 0)) (dRet (dBin gAdd (dVar 0) (dC (.str "abcdefghijklmnopqrstuvwxyz{|}~\n"))))
theorem rd_l_signs02 {n1 : Str} : ∀ ds μ Q E, S_l_signs02 ds μ Q E → t_l_signs02 (dFn μ Q E) (start0 [n1] ds) μ := by
  rintro _ μ Q E ⟨rfl, q⟩
  unfold t_l_signs02
  refine seq_ev EV.c ?_
  refine ret_ev (d := .str signs02) (EV.bin (EV.var rfl) EV.c fun R q => ⟨by rw [sizeLine_eq]; decide +kernel, q⟩) ?_
  exact FnEnd.here q
/-- a thing that is no cell -/
structure TH (d : D) : Prop where
  pu : d.pu = true
  gd : goodF 11 d = true
  sf : deqW 11 d d = some true
  ty : ∃ t, ∀ μ, tyD (lk μ d) = some t
theorem okn_good02 : ∀ (k : Nat) (d : D), D.okn k d = true → goodF k d = true := by
  intro k
  induction k with
  | zero => intro d h; cases d <;> first | rfl | cases h
  | succ k ih =>
    intro d h
    cases d with
    | lst xs =>
      have h : xs.all (D.okn k) = true := h
      show xs.all (goodF k) = true
      rw [List.all_eq_true] at h ⊢
      exact fun x hx => ih x (h x hx)
    | tup xs =>
      have h : xs.all (D.okn k) = true := h
      show xs.all (goodF k) = true
      rw [List.all_eq_true] at h ⊢
      exact fun x hx => ih x (h x hx)
    | non => rfl
    | bl b => rfl
    | int i => rfl
    | str x => rfl
    | ref l => cases h
    | cls c => cases h
    | scr ns => cases h
    | dct kvs => cases h
    | ins c fs => cases h
theorem TH.okn {d : D} {t : Ty} (pu : d.pu = true) (h : D.okn 11 d = true) (ht : ∀ μ, tyD (lk μ d) = some t) : TH d := ⟨pu, okn_good02 11 d h, deqW_okn h, t, ht⟩
theorem TH.one {s : Str} : TH (.dct [(.inr s, .int 1)]) := by
  refine ⟨rfl, rfl, ?_, _, fun μ => rfl⟩
  have ek : (([(Sum.inr s, D.int 1)] : List (Key × D)).map (·.1)).Nodup := by simp
  unfold deqW
  rw [show D.okn (10 + 1) (.dct [(Sum.inr s, D.int 1)]) = false from rfl]
  simp only [Bool.and_self, cond_false]
  rw [if_neg (fun z => z.1 rfl), if_pos ⟨ek, ek⟩, dct_refl (k := 10) (f := deqW 10) (b := [(Sum.inr s, D.int 1)]) (fun kv hk => by
    rw [List.mem_singleton.mp hk]
    exact deqW_okn rfl) [(Sum.inr s, D.int 1)] (fun kv hk => lookD_nodup ek hk) (fun _ h => h)]
  simp
theorem ix_str02 {z : Str} {μ : Mu} {i : Int} {Q : D → Mu → Prop} (hz : asc z) (hl : z.length ≤ 10000) (h0 : 0 ≤ i) (h1 : i < (z.length : Int)) (q : ∀ s, asc s → s.length = 1 → Q (.str s) μ) : gIx (.str z) (.int i) μ Q := by
  have hi : i.toNat < z.cps.toList.length := by
    have : z.cps.toList.length = z.length := by unfold Str.length; simp
    omega
  have e : atI z.cps.toList i = some z.cps.toList[i.toNat] := atI_nat' h0 (List.getElem?_eq_getElem hi)
  unfold gIx
  simp only [lk, e]
  refine ⟨by rw [sizeLine_eq]; omega, q _ (fun c hc => ?_) rfl⟩
  have : c = z.cps.toList[i.toNat] := by simpa using hc
  rw [this]
  exact hz _ (List.getElem_mem _)
def S_l_thing02 : DSp := fun ds μ Q _ => ∃ c ρ, ds = [.ref 0] ∧ μ = OM c ρ ∧ 20 ≤ c ∧ ∀ c' d, c ≤ c' + 20 → TH d → Q d (OM c' ρ)
def t_l_thing02 : DTS := dSeq (dAsg (dBin (gI fun i j => .int (i - j)) (dOp S_draw (dCons (dVar 0) (dCons (dC (.int 2000001)) (dNil)))) (dC (.int 1000000))) (dName 1)) (dSeq (dAsg (dOp S_l_signs02 dNil) (dName 2)) (dSeq (dAsg (dJoin (dC (.str "")) (dComp true [4] (dRange1 (dOp S_draw (dCons (dVar 0) (dCons (dC (.int 6)) (dNil))))) (cName 4) (dYes) (dBin gIx (dVar 2) (dOp S_draw (dCons (dVar 0) (dCons (dCall gLen (dCons (dVar 2) dNil)) (dNil))))))) (dName 3)) (dRet (dBin gIx (dCall gLst (dCons (dVar 3) (dCons (dVar 1) (dCons (dC .non) (dCons (dCall gTup (dCons (dVar 3) (dCons (dVar 1) (dNil)))) (dCons (dBin (gI fun i j => .int (i - j)) (dUn gNeg (dBin gPow (dC (.int 10)) (dC (.int 28)))) (dVar 1)) (dCons (dC (.str "")) (dCons (dC (.int 0)) (dCons (dC (.bl true)) (dCons (dDict true [(dVar 3, dC (.int 1))]) (dNil))))))))))) (dOp S_draw (dCons (dVar 0) (dCons (dC (.int 9)) (dNil))))))))
theorem rd_l_thing02 {n1 n2 n3 n4 n5 : Str} : ∀ ds μ Q E, S_l_thing02 ds μ Q E → t_l_thing02 (dFn μ Q E) (start0 [n1, n2, n3, n4, n5] ds) μ := by
  rintro _ _ Q E ⟨c, ρ, rfl, rfl, hc, q⟩
  obtain ⟨sa, sl, s1⟩ := signs_asc
  unfold t_l_thing02
  rw [dSeq]
  simp only [dAsg, dBin, dOp, dCons, dNil, dVar, dC, start0, List.map_cons, List.map_nil, List.length_cons, List.length_nil, List.replicate, List.cons_append, List.nil_append, List.getElem?_cons_zero]
  refine draw_OM (by omega) (by decide) (by decide) fun c1 a h1 h2 h3 => ?_
  simp only [gI, dName, List.set_cons_succ, List.set_cons_zero]
  rw [dSeq]
  simp only [dAsg, dOp, dNil]
  refine ⟨rfl, ?_⟩
  simp only [dName, List.set_cons_succ, List.set_cons_zero]
  rw [dSeq]
  simp only [dAsg, dJoin, dC]
  refine ⟨⟨_, rfl⟩, ?_⟩
  rw [dComp]
  unfold dRange1
  simp only [dOp, dCons, dNil, dVar, dC, List.getElem?_cons_zero]
  refine draw_OM (by omega) (by decide) (by decide) fun c2 n h4 h5 h6 => ?_
  refine ⟨by omega, ?_⟩
  refine comp_inv (fun i acc μ' => ∃ c' ys, μ' = OM c' ρ ∧ acc = ys.map D.str ∧ c2 ≤ c' + i ∧ i ≤ 6 ∧ ys.length = i ∧ ∀ y ∈ ys, asc y ∧ y.length = 1) ⟨c2, [], rfl, rfl, by omega, by omega, rfl, fun y hy => by cases hy⟩ (by rw [irng_len, sizeLine_eq]; omega) ?_ ?_
  · rintro i d acc μ' hd ⟨c', ys, rfl, rfl, g1, g2, g3, g4⟩
    obtain ⟨hi, rfl⟩ := irng_get hd
    refine ⟨trivial, fun K1 K2 k1 k2 => ?_⟩
    simp only [cName, dYes, cond_true, wipeG, List.set_cons_succ, List.set_cons_zero, List.getElem?_cons_succ, List.getElem?_cons_zero, dCall, gLen, lk]
    have hi6 : i < 6 := by omega
    refine ⟨by rw [sizeLine_eq]; omega, ?_⟩
    simp only [dNil]
    refine draw_OM (by omega) (by omega) (by omega) fun c3 j h7 h8 h9 => ?_
    refine ix_str02 sa (by omega) h8 h9 fun s e1 e2 => ?_
    exact k1 _ _ ⟨c3, ys ++ [s], rfl, by simp, by omega, by omega, by simp [g3], fun y hy => by
      rcases List.mem_append.mp hy with z | z
      · exact g4 y z
      · rw [List.mem_singleton.mp z]; exact ⟨e1, e2⟩⟩
  · rintro acc μ' ⟨c', ys, rfl, rfl, g1, g2, g3, g4⟩
    rw [irng_len] at g1 g2 g3
    refine ⟨trivial, ?_⟩
    simp only [dFin, lk, strD_map]
    have hsum : (ys.map (·.length)).sum ≤ 6 := by
      have : ∀ (l : List Str), (∀ y ∈ l, asc y ∧ y.length = 1) → (l.map (·.length)).sum = l.length := fun l => by
        induction l with
        | nil => intro _; rfl
        | cons a b ih => intro h; simp only [List.map_cons, List.sum_cons, List.length_cons]; rw [(h a (List.mem_cons_self ..)).2, ih fun y hy => h y (List.mem_cons_of_mem _ hy)]; omega
      rw [this ys g4]; omega
    refine ⟨?_, ?_⟩
    · have : (Str.ofString "").length = 0 := rfl
      rw [this]; omega
    have hz : asc (Txt.join (Str.ofString "") ys) := asc_join fun t ht => (g4 t ht).1
    generalize Txt.join (Str.ofString "") ys = z at hz
    have zk := asc_ok hz
    simp only [dName, List.set_cons_succ, List.set_cons_zero]
    have e1 : EV (dVar 1) (.int (a - 1000000)) [some (.ref 0), some (.int (a - 1000000)), some (.str signs02), some (.str z), none] (OM c' ρ) := EV.var rfl
    have e3 : EV (dVar 3) (.str z) [some (.ref 0), some (.int (a - 1000000)), some (.str signs02), some (.str z), none] (OM c' ρ) := EV.var rfl
    have e5 : EV (dBin (gI fun i j => .int (i - j)) (dUn gNeg (dBin gPow (dC (.int 10)) (dC (.int 28)))) (dVar 1)) (.int (-(10 ^ (28 : Int).toNat) - (a - 1000000))) [some (.ref 0), some (.int (a - 1000000)), some (.str signs02), some (.str z), none] (OM c' ρ) := by
      exact EV.bin (x := .int (-(10 ^ (28 : Int).toNat))) (fun R E q => ⟨⟨by decide, by decide, by decide⟩, q⟩) e1 fun R q => q
    have e9 : EV (dDict true [(dVar 3, dC (.int 1))]) (.dct [(.inr z, .int 1)]) [some (.ref 0), some (.int (a - 1000000)), some (.str signs02), some (.str z), none] (OM c' ρ) := fun R E q => by
      unfold dDict
      simp only [dPairs, dVar, dC, List.getElem?_cons_succ, List.getElem?_cons_zero]
      exact ⟨by simp, q⟩
    rw [dRet, dBin]
    refine EV.lst (EA.cons e3 (EA.cons e1 (EA.cons EV.c (EA.cons (EV.tup (EA.cons e3 (EA.cons e1 EA.nil)) (szl (by simp))) (EA.cons e5 (EA.cons EV.c (EA.cons EV.c (EA.cons EV.c (EA.cons e9 EA.nil))))))))) (szl (by simp)) _ _ ?_
    simp only [dOp, dCons, dNil, dVar, dC, List.getElem?_cons_zero]
    refine draw_OM (by omega) (by decide) (by decide) fun c4 j h7 h8 h9 => ?_
    have fin : ∀ d, TH d → (dFn (OM c ρ) Q E).rt d (OM c4 ρ) := fun d hd => FnEnd.here (q c4 d (by omega) hd)
    have hj : j = 0 ∨ j = 1 ∨ j = 2 ∨ j = 3 ∨ j = 4 ∨ j = 5 ∨ j = 6 ∨ j = 7 ∨ j = 8 := by omega
    have tz : TH (.str z) := TH.okn rfl zk fun _ => rfl
    have ti : ∀ i, TH (.int i) := fun i => TH.okn rfl rfl fun _ => rfl
    rcases hj with rfl | rfl | rfl | rfl | rfl | rfl | rfl | rfl | rfl
    · exact fin _ tz
    · exact fin _ (ti _)
    · exact fin _ (TH.okn rfl rfl fun _ => rfl)
    · refine fin _ (TH.okn (t := .tup) rfl ?_ fun _ => rfl)
      show (PyData.strOk z && (true && true)) = true
      rw [zk]; rfl
    · exact fin _ (ti _)
    · exact fin _ (TH.okn rfl (by decide +kernel) fun _ => rfl)
    · exact fin _ (ti _)
    · exact fin _ (TH.okn rfl rfl fun _ => rfl)
    · exact fin _ TH.one
end DV
namespace DV
open PySem PySem.Spec PyProof.Rows L2
/-! _law_keeps -/
theorem deq_self02 {d : D} {μ : Mu} (h : D.okn 12 d = true) (hl : lk μ d = d) : deqOk μ d d ∧ deq μ d d = true := by
  unfold deqOk deq
  rw [hl]
  exact ⟨⟨h, h⟩, SeqAt.eqv_refl _ (okn_lay 12 d h).1⟩
theorem okn_bls (l : List Bool) (k : Nat) : D.okn (k + 2) (.lst (l.map .bl)) = true := by
  show (l.map D.bl).all (D.okn (k + 1)) = true
  rw [List.all_map, List.all_eq_true]
  intro b _
  rfl
def kindL (i : Nat) : List Bool := (List.range 15).map fun j => decide (j = i)
theorem kinds_eq : ∀ i, i < 15 → (ALL.map fun t => decide (ALL.getD i .BadName = t)) = kindL i := by decide
def CellsX (μ : Mu) (b : Nat) (t0 t1 t2 t3 t4 t5 t6 t7 t8 t9 t10 t11 : D) : Prop := ∀ (i : Nat) c, (mkC b t0 t1 t2 t3 t4 t5 t6 t7 t8 t9 t10 t11)[i]? = some c → μ[b + i]? = some c
section
variable {μ : Mu} {b : Nat} {t0 t1 t2 t3 t4 t5 t6 t7 t8 t9 t10 t11 : D}
theorem CellsX.at_ (h : CellsX μ b t0 t1 t2 t3 t4 t5 t6 t7 t8 t9 t10 t11) {i : Nat} (hi : i < 15) : ∃ l m, (refX b)[i]? = some (.ref l) ∧ μ[l]? = some (.exo (ALL.getD i .BadName) m) ∧ ∀ j, m = some j → ∃ fs, μ[j]? = some (.xdc fs) := by
  have hc : i = 0 ∨ i = 1 ∨ i = 2 ∨ i = 3 ∨ i = 4 ∨ i = 5 ∨ i = 6 ∨ i = 7 ∨ i = 8 ∨ i = 9 ∨ i = 10 ∨ i = 11 ∨ i = 12 ∨ i = 13 ∨ i = 14 := by omega
  rcases hc with rfl | rfl | rfl | rfl | rfl | rfl | rfl | rfl | rfl | rfl | rfl | rfl | rfl | rfl | rfl
  · exact ⟨_, _, rfl, h 1 _ rfl, fun j e => by cases e; exact ⟨_, h 0 _ rfl⟩⟩
  · exact ⟨_, _, rfl, h 3 _ rfl, fun j e => by cases e; exact ⟨_, h 2 _ rfl⟩⟩
  · exact ⟨_, _, rfl, h 5 _ rfl, fun j e => by cases e; exact ⟨_, h 4 _ rfl⟩⟩
  · exact ⟨_, _, rfl, h 7 _ rfl, fun j e => by cases e; exact ⟨_, h 6 _ rfl⟩⟩
  · exact ⟨_, _, rfl, h 9 _ rfl, fun j e => by cases e; exact ⟨_, h 8 _ rfl⟩⟩
  · exact ⟨_, _, rfl, h 11 _ rfl, fun j e => by cases e; exact ⟨_, h 10 _ rfl⟩⟩
  · exact ⟨_, _, rfl, h 13 _ rfl, fun j e => by cases e; exact ⟨_, h 12 _ rfl⟩⟩
  · exact ⟨_, _, rfl, h 15 _ rfl, fun j e => by cases e; exact ⟨_, h 14 _ rfl⟩⟩
  · exact ⟨_, _, rfl, h 17 _ rfl, fun j e => by cases e; exact ⟨_, h 16 _ rfl⟩⟩
  · exact ⟨_, _, rfl, h 19 _ rfl, fun j e => by cases e; exact ⟨_, h 18 _ rfl⟩⟩
  · exact ⟨_, _, rfl, h 21 _ rfl, fun j e => by cases e; exact ⟨_, h 20 _ rfl⟩⟩
  · exact ⟨_, _, rfl, h 23 _ rfl, fun j e => by cases e; exact ⟨_, h 22 _ rfl⟩⟩
  · exact ⟨_, _, rfl, h 24 _ rfl, fun j e => by cases e⟩
  · exact ⟨_, _, rfl, h 25 _ rfl, fun j e => by cases e⟩
  · exact ⟨_, _, rfl, h 26 _ rfl, fun j e => by cases e⟩
end
def S_l_keeps02 : DSp := fun ds μ Q _ => ∃ b t0 t1 t2 t3 t4 t5 t6 t7 t8 t9 t10 t11, ds = [.lst (refX b), .lst [t0, t1, t2, t3, t4, t5, t6, t7, t8, t9, t10, t11]] ∧ CellsX μ b t0 t1 t2 t3 t4 t5 t6 t7 t8 t9 t10 t11 ∧
  goodF 12 (frz μ 12 (.lst [t0, t1, t2, t3, t4, t5, t6, t7, t8, t9, t10, t11])) = true ∧ deqW 12 (frz μ 12 (.lst [t0, t1, t2, t3, t4, t5, t6, t7, t8, t9, t10, t11])) (frz μ 12 (.lst [t0, t1, t2, t3, t4, t5, t6, t7, t8, t9, t10, t11])) = some true ∧
  (∀ t ∈ [t0, t1, t2, t3, t4, t5, t6, t7, t8, t9, t10, t11], ∃ ty, tyD (lk μ t) = some ty) ∧ Q (.bl true) μ
def t_l_keeps02_4 : DTS := dRet (dAnd (dBin gEqV (dVar 3) (dVar 1)) (dBin gEq (dVar 4) (dComp true [5] (dIter (dVar 1)) (cName 5) (dYes) (dIsi .bool (dVar 5)))))
def t_l_keeps02_3 : DTS := dSeq (dAsg (dComp true [5] (dIter (dVar 3)) (cName 5) (dYes) (dIsi .bool (dVar 5))) (dName 4)) (t_l_keeps02_4)
def t_l_keeps02_2 : DTS := dSeq (dAsg (dBin gAdd (dVar 3) (dCall gLst (dCons (dXV .BadCell "value" (dBin gIx (dVar 0) (dC (.int 6)))) (dCons (dXV .BadSide "word" (dBin gIx (dVar 0) (dC (.int 7)))) (dCons (dXV .BadLine "number" (dBin gIx (dVar 0) (dC (.int 8)))) (dCons (dXV .BadWish "value" (dBin gIx (dVar 0) (dC (.int 9)))) (dCons (dXV .UnlikeOutcomes "names" (dBin gIx (dVar 0) (dC (.int 10)))) (dCons (dXV .NotFirm "value" (dBin gIx (dVar 0) (dC (.int 11)))) (dNil))))))))) (dName 3)) (t_l_keeps02_3)
def t_l_keeps02_1 : DTS := dSeq (dAsg (dCall gLst (dCons (dXV .BadName "name" (dBin gIx (dVar 0) (dC (.int 0)))) (dCons (dXV .DuplicateName "name" (dBin gIx (dVar 0) (dC (.int 1)))) (dCons (dXV .UnknownName "name" (dBin gIx (dVar 0) (dC (.int 2)))) (dCons (dXV .BadCount "count" (dBin gIx (dVar 0) (dC (.int 3)))) (dCons (dXV .BadText "text" (dBin gIx (dVar 0) (dC (.int 4)))) (dCons (dXV .BadSet "value" (dBin gIx (dVar 0) (dC (.int 5)))) (dNil)))))))) (dName 3)) (t_l_keeps02_2)
def t_l_keeps02 : DTS := dSeq (dFor (dRange1 (dC (.int 15))) (dName 2) (dSeq (dIf (dOrT (dNotT (dTest (dIsV [.BadName, .DuplicateName, .UnknownName, .BadCount, .BadText, .BadSet, .BadCell, .BadSide, .BadLine, .BadWish, .UnlikeOutcomes, .IsFirm, .IsSmooth, .NotFirm, .NothingToUndo] .base (dBin gIx (dVar 0) (dVar 2))))) (dNotT (dTest (dIsV [.BadName, .DuplicateName, .UnknownName, .BadCount, .BadText, .BadSet, .BadCell, .BadSide, .BadLine, .BadWish, .UnlikeOutcomes, .IsFirm, .IsSmooth, .NotFirm, .NothingToUndo] .val (dBin gIx (dVar 0) (dVar 2)))))) (dRet (dC (.bl false))) (dNext)) (dIf (dTest (dBin gNe (dOp S_l_kinds02 (dCons (dBin gIx (dVar 0) (dVar 2)) (dNil))) (dComp true [6] (dRange1 (dC (.int 15))) (cName 6) (dYes) (dBin gEq (dVar 6) (dVar 2))))) (dRet (dC (.bl false))) (dNext)))) (t_l_keeps02_1)
theorem isb_list {μ : Mu} : ∀ (ts : List D), (∀ t ∈ ts, ∃ ty, tyD (lk μ t) = some ty) → ∃ bs : List Bool, bs.length = ts.length ∧ ∀ (i : Nat) d, ts[i]? = some d → ∃ ty b, tyD (lk μ d) = some ty ∧ ty.sub .bool = b ∧ bs[i]? = some b
  | [], _ => ⟨[], rfl, fun i d h => by cases h⟩
  | t :: ts, h => by
    obtain ⟨ty, e⟩ := h t List.mem_cons_self
    obtain ⟨bs, h1, h2⟩ := isb_list ts fun x hx => h x (List.mem_cons_of_mem _ hx)
    refine ⟨ty.sub .bool :: bs, by simp [h1], fun i d hd => ?_⟩
    cases i with
    | zero => cases hd; exact ⟨ty, _, e, rfl, rfl⟩
    | succ i => exact h2 i d hd
theorem EV.bools {e : DTE} {ts : List D} {bs : List Bool} {Γ : Gam} {μ : Mu} {j : Nat} (hj : j < Γ.length) (he : EV e (.lst ts) Γ μ) (h1 : bs.length = ts.length) (h2 : ∀ (i : Nat) d, ts[i]? = some d → ∃ ty b, tyD (lk μ d) = some ty ∧ ty.sub .bool = b ∧ bs[i]? = some b) (h8 : ts.length ≤ 100) : EV (dComp true [j] (dIter e) (cName j) (dYes) (dIsi .bool (dVar j))) (.lst (bs.map .bl)) Γ μ := fun R E q => by
  rw [dComp]
  refine he _ E ?_
  refine comp_list (bs.map D.bl) trivial (by rw [List.length_map, h1]) (by rw [sizeLine_eq]; omega) (fun i d y hd hy K1 K2 k1 => ?_) q
  obtain ⟨ty, b, e1, e2, e3⟩ := h2 i d hd
  rw [List.getElem?_map, e3] at hy
  cases hy
  simp only [cName, dYes, cond_true]
  have hv : EV (dVar j) d ((wipeG Γ [j]).set j (some d)) μ := EV.var (by rw [List.getElem?_set_self]; simp [wipeG]; exact hj)
  refine hv _ _ ?_
  rw [e1]
  dsimp only
  rw [e2]
  exact k1
theorem EV.neSame {f g : DTE} {d : D} {Γ : Gam} {μ : Mu} (h1 : EV f d Γ μ) (h2 : EV g d Γ μ) (ho : D.okn 12 d = true) (hl : lk μ d = d) : EV (dBin gNe f g) (.bl false) Γ μ := EV.bin h1 h2 fun R q => by
  obtain ⟨e1, e2⟩ := deq_self02 ho hl
  refine ⟨e1, ?_⟩
  rw [e2]; exact q
theorem EV.eqSame {f g : DTE} {d : D} {Γ : Gam} {μ : Mu} (h1 : EV f d Γ μ) (h2 : EV g d Γ μ) (ho : D.okn 12 d = true) (hl : lk μ d = d) : EV (dBin gEq f g) (.bl true) Γ μ := EV.bin h1 h2 fun R q => by
  obtain ⟨e1, e2⟩ := deq_self02 ho hl
  refine ⟨e1, ?_⟩
  rw [e2]; exact q
theorem ev_kindL {i : Nat} {Γ : Gam} {μ : Mu} (hl : Γ.length = 7) (h2 : Γ[2]? = some (some (.int (i : Int)))) : EV (dComp true [6] (dRange1 (dC (.int 15))) (cName 6) (dYes) (dBin gEq (dVar 6) (dVar 2))) (.lst ((kindL i).map .bl)) Γ μ := fun R E q => by
  rw [dComp]
  unfold dRange1
  simp only [dC]
  refine ⟨by decide, ?_⟩
  refine comp_list ((kindL i).map .bl) trivial (by rw [irng_len]; simp [kindL]) (by rw [irng_len, sizeLine_eq]; decide) (fun k d y hd hy K1 K2 k1 => ?_) q
  obtain ⟨hk, rfl⟩ := irng_get hd
  have hk : k < 15 := hk
  unfold kindL at hy
  rw [List.map_map, List.getElem?_map, List.getElem?_range hk] at hy
  cases hy
  simp only [cName, dYes, cond_true, dBin, dVar]
  rw [List.getElem?_set_self (by simp [wipeG]; omega), List.getElem?_set_ne (by decide)]
  have h2' : (wipeG Γ [6])[2]? = some (some (.int (i : Int))) := by
    simp only [wipeG]
    first | (rw [List.getElem?_set_ne (by decide)]; exact h2) | (simpa [wipeG] using h2)
  rw [h2']
  dsimp only
  refine ⟨⟨rfl, rfl⟩, ?_⟩
  rw [deq_int]
  have : decide ((0 : Int) + (k : Int) = (i : Int)) = decide (k = i) := by
    by_cases e : k = i
    · rw [decide_eq_true e, decide_eq_true (by omega)]
    · rw [decide_eq_false e, decide_eq_false (by omega)]
  rw [this]
  exact k1
theorem rd_l_keeps02 {n1 n2 n3 n4 n5 n6 n7 : Str} : ∀ ds μ Q E, S_l_keeps02 ds μ Q E → t_l_keeps02 (dFn μ Q E) (start0 [n1, n2, n3, n4, n5, n6, n7] ds) μ := by
  rintro _ μ Q E ⟨b, t0, t1, t2, t3, t4, t5, t6, t7, t8, t9, t10, t11, rfl, hC, g1, g2, ht, q⟩
  unfold t_l_keeps02
  rw [dSeq]
  simp only [dFor, dRange1, dC, start0, List.map_cons, List.map_nil, List.length_cons, List.length_nil, List.replicate, List.cons_append, List.nil_append]
  refine ⟨by decide, ?_⟩
  refine loop_inv (src := none) (fun i Γ μ' => μ' = μ ∧ ∃ a2, Γ = [some (.lst (refX b)), some (.lst [t0, t1, t2, t3, t4, t5, t6, t7, t8, t9, t10, t11]), a2, none, none, none, none]) ⟨rfl, none, rfl⟩ ?_ ?_
  · rintro i d Γ μ' hd ⟨rfl, a2, rfl⟩
    obtain ⟨hi, rfl⟩ := irng_get hd
    have hi : i < 15 := hi
    refine ⟨trivial, fun Kn kn => ?_⟩
    simp only [dName, List.set_cons_succ, List.set_cons_zero]
    rw [Int.zero_add]
    obtain ⟨l, m, e1, e2, e3⟩ := hC.at_ hi
    have hm : ALL.getD i .BadName ∈ [EK.BadName, .DuplicateName, .UnknownName, .BadCount, .BadText, .BadSet, .BadCell, .BadSide, .BadLine, .BadWish, .UnlikeOutcomes, .IsFirm, .IsSmooth, .NotFirm, .NothingToUndo] := by cases ALL.getD i .BadName <;> decide
    have el : EV (dBin gIx (dVar 0) (dVar 2)) (.ref l) [some (.lst (refX b)), some (.lst [t0, t1, t2, t3, t4, t5, t6, t7, t8, t9, t10, t11]), some (.int (i : Int)), none, none, none, none] μ' := EV.ixL (EV.var rfl) (EV.var rfl) e1
    refine skip (SY.or (SY.nott (SY.test (v := true) (EV.isv (t := .base) el hm e2 e3))) (SY.nott (SY.test (v := true) (EV.isv (t := .val) el hm e2 e3)))) ?_
    have ek := EV.op (S := S_l_kinds02) (r := .lst ((kindL i).map .bl)) (EA.cons el EA.nil) fun R E q => ⟨l, _, m, rfl, e2, e3, by
      have : (ALL.map fun t => D.bl (decide (ALL.getD i .BadName = t))) = (kindL i).map .bl := by rw [← kinds_eq i hi, List.map_map]; rfl
      rw [this]; exact q⟩
    exact skip0 (SY.test (EV.neSame ek (ev_kindL rfl rfl) (okn_bls _ 10) rfl)) (kn _ _ ⟨rfl, _, rfl⟩)
  · rintro Γ μ' ⟨rfl, a2, rfl⟩
    refine ⟨trivial, ?_⟩
    have xv : ∀ {Γ : Gam} {i : Nat} {l m : Nat} {k : EK} {fl : Str} {d : D} {fs : List (Str × D)}, Γ[0]? = some (some (.lst (refX b))) → (refX b)[i]? = some (.ref l) → μ'[l]? = some (.exo k (some m)) → μ'[m]? = some (.xdc fs) → fs.lookup fl = some d → EV (dXV k fl (dBin gIx (dVar 0) (dC (.int (i : Int))))) d Γ μ' := fun h e e1 e2 e3 => EV.xv (EV.ixL (EV.var h) EV.c e) e1 e2 e3
    dsimp only
    unfold t_l_keeps02_1
    refine seq_ev (EV.lst (EA.cons (xv (i := 0) rfl rfl (hC 1 _ rfl) (hC 0 _ rfl) rfl) (EA.cons (xv (i := 1) rfl rfl (hC 3 _ rfl) (hC 2 _ rfl) rfl) (EA.cons (xv (i := 2) rfl rfl (hC 5 _ rfl) (hC 4 _ rfl) rfl) (EA.cons (xv (i := 3) rfl rfl (hC 7 _ rfl) (hC 6 _ rfl) rfl) (EA.cons (xv (i := 4) rfl rfl (hC 9 _ rfl) (hC 8 _ rfl) rfl) (EA.cons (xv (i := 5) rfl rfl (hC 11 _ rfl) (hC 10 _ rfl) rfl) EA.nil)))))) (szl (by simp))) ?_
    unfold t_l_keeps02_2
    refine seq_ev (EV.add (EV.var rfl) (EV.lst (EA.cons (xv (i := 6) rfl rfl (hC 13 _ rfl) (hC 12 _ rfl) rfl) (EA.cons (xv (i := 7) rfl rfl (hC 15 _ rfl) (hC 14 _ rfl) rfl) (EA.cons (xv (i := 8) rfl rfl (hC 17 _ rfl) (hC 16 _ rfl) rfl) (EA.cons (xv (i := 9) rfl rfl (hC 19 _ rfl) (hC 18 _ rfl) rfl) (EA.cons (xv (i := 10) rfl rfl (hC 21 _ rfl) (hC 20 _ rfl) rfl) (EA.cons (xv (i := 11) rfl rfl (hC 23 _ rfl) (hC 22 _ rfl) rfl) EA.nil)))))) (szl (by simp))) (sz91 (by simp) (by simp))) ?_
    obtain ⟨bs, b1, b2⟩ := isb_list (μ := μ') _ ht
    unfold t_l_keeps02_3
    refine seq_ev (EV.bools (by simp) (EV.var rfl) b1 b2 (by simp)) ?_
    unfold t_l_keeps02_4
    refine ret_ev (d := .bl true) (fun R E q => ?_) (FnEnd.here q)
    have h1 : EV (dBin gEqV (dVar 3) (dVar 1)) (.bl true) [some (.lst (refX b)), some (.lst [t0, t1, t2, t3, t4, t5, t6, t7, t8, t9, t10, t11]), a2, some (.lst [t0, t1, t2, t3, t4, t5, t6, t7, t8, t9, t10, t11]), some (.lst (bs.map .bl)), none, none] μ' := EV.bin (EV.var rfl) (EV.var rfl) fun R q => ⟨g1, g1, true, g2, q⟩
    refine h1 _ E ?_
    exact EV.eqSame (EV.var rfl) (EV.bools (by simp) (EV.var rfl) b1 b2 (by simp)) (okn_bls _ 10) rfl _ E q
end DV
namespace DV
open PySem PySem.Spec PyProof.Rows L2
/-! the law: what is kept -/
structure GD (μ : Mu) (d : D) : Prop where
  g : goodF 11 (frz μ 11 d) = true
  s : deqW 11 (frz μ 11 d) (frz μ 11 d) = some true
  t : ∃ ty, tyD (lk μ d) = some ty
theorem TH.gd' {d : D} (h : TH d) (μ : Mu) : GD μ d := by
  have e : frz μ 11 d = d := goodF_frz 11 d h.gd
  obtain ⟨ty, ht⟩ := h.ty
  exact ⟨by rw [e]; exact h.gd, by rw [e]; exact h.sf, ty, ht μ⟩
section
variable {μ : Mu} {b : Nat} {t0 t1 t2 t3 t4 t5 t6 t7 t8 t9 t10 t11 : D} {f g : DTE} {Γ : Gam} {R : D → Mu → Prop} {E : Exn → Mu → Prop}
theorem cells_new : CellsX (μ ++ mkC μ.length t0 t1 t2 t3 t4 t5 t6 t7 t8 t9 t10 t11) μ.length t0 t1 t2 t3 t4 t5 t6 t7 t8 t9 t10 t11 := fun i c h => by
  rw [List.getElem?_append_right (by omega), Nat.add_sub_cancel_left]; exact h
theorem CellsX.app {ext : Mu} (h : CellsX μ b t0 t1 t2 t3 t4 t5 t6 t7 t8 t9 t10 t11) : CellsX (μ ++ ext) b t0 t1 t2 t3 t4 t5 t6 t7 t8 t9 t10 t11 := fun i c hc => by
  have := h i c hc
  rw [List.getElem?_append_left (List.getElem?_eq_some_iff.mp this).1]; exact this
theorem keeps_go (hf : EV f (.lst (refX b)) Γ μ) (hg : EV g (.lst [t0, t1, t2, t3, t4, t5, t6, t7, t8, t9, t10, t11]) Γ μ) (hC : CellsX μ b t0 t1 t2 t3 t4 t5 t6 t7 t8 t9 t10 t11) (hG : ∀ t ∈ [t0, t1, t2, t3, t4, t5, t6, t7, t8, t9, t10, t11], GD μ t) (q : R (.bl true) μ) :
    dOp S_l_keeps02 (dCons f (dCons g dNil)) Γ μ R E := by
  refine hf _ E (hg _ E ⟨b, t0, t1, t2, t3, t4, t5, t6, t7, t8, t9, t10, t11, rfl, hC, ?_, ?_, fun t ht => (hG t ht).t, q⟩)
  · show (([t0, t1, t2, t3, t4, t5, t6, t7, t8, t9, t10, t11].map (frz μ 11)).all (goodF 11)) = true
    rw [List.all_map, List.all_eq_true]
    exact fun t ht => (hG t ht).g
  · show deqW 12 (.lst ([t0, t1, t2, t3, t4, t5, t6, t7, t8, t9, t10, t11].map (frz μ 11))) (.lst ([t0, t1, t2, t3, t4, t5, t6, t7, t8, t9, t10, t11].map (frz μ 11))) = some true
    refine deqW_lst fun d hd => ?_
    obtain ⟨t, ht, rfl⟩ := List.mem_map.mp hd
    exact (hG t ht).s
theorem all_go (hf : EV f (.lst [t0, t1, t2, t3, t4, t5, t6, t7, t8, t9, t10, t11]) Γ μ) (q : R (.lst (refX μ.length)) (μ ++ mkC μ.length t0 t1 t2 t3 t4 t5 t6 t7 t8 t9 t10 t11)) : dOp S_l_all02 (dCons f dNil) Γ μ R E := hf _ E ⟨t0, t1, t2, t3, t4, t5, t6, t7, t8, t9, t10, t11, rfl, q⟩
/-- all made and looked at at once -/
theorem keeps_all (hf : ∀ μ', EV f (.lst [t0, t1, t2, t3, t4, t5, t6, t7, t8, t9, t10, t11]) Γ μ') (hG : ∀ t ∈ [t0, t1, t2, t3, t4, t5, t6, t7, t8, t9, t10, t11], GD (μ ++ mkC μ.length t0 t1 t2 t3 t4 t5 t6 t7 t8 t9 t10 t11) t) (q : R (.bl true) (μ ++ mkC μ.length t0 t1 t2 t3 t4 t5 t6 t7 t8 t9 t10 t11)) :
    dOp S_l_keeps02 (dCons (dOp S_l_all02 (dCons f dNil)) (dCons f dNil)) Γ μ R E := by
  unfold dOp
  refine all_go (hf μ) ?_
  exact keeps_go (f := dC (.lst (refX μ.length))) EV.c (hf _) cells_new hG q
end
theorem twelve {xs : List D} (h : xs.length = 12) : ∃ t0 t1 t2 t3 t4 t5 t6 t7 t8 t9 t10 t11, xs = [t0, t1, t2, t3, t4, t5, t6, t7, t8, t9, t10, t11] := by
  match xs, h with
  | [t0, t1, t2, t3, t4, t5, t6, t7, t8, t9, t10, t11], _ => exact ⟨_, _, _, _, _, _, _, _, _, _, _, _, rfl⟩
/-- [_law_thing(state) for k in range(12)] -/
theorem things_go {Γ : Gam} {c : Nat} {ρ : Mu} {R : D → Mu → Prop} {E : Exn → Mu → Prop} (h1 : Γ[1]? = some (some (.ref 0))) (hl : Γ.length = 8) (hc : 240 ≤ c) (q : ∀ c' ts, c ≤ c' + 240 → ts.length = 12 → (∀ t ∈ ts, TH t) → R (.lst ts) (OM c' ρ)) :
    dComp true [7] (dRange1 (dC (.int 12))) (cName 7) (dYes) (dOp S_l_thing02 (dCons (dVar 1) (dNil))) Γ (OM c ρ) R E := by
  rw [dComp]
  unfold dRange1
  simp only [dC]
  refine ⟨by decide, ?_⟩
  refine comp_inv (fun i acc μ' => ∃ c', μ' = OM c' ρ ∧ acc.length = i ∧ (∀ t ∈ acc, TH t) ∧ c ≤ c' + 20 * i ∧ i ≤ 12) ⟨c, rfl, rfl, fun t ht => (by cases ht), by omega, by omega⟩ (by rw [irng_len, sizeLine_eq]; decide) ?_ ?_
  · rintro i d acc μ' hd ⟨c', rfl, g1, g2, g3, g4⟩
    obtain ⟨hi, rfl⟩ := irng_get hd
    have hi : i < 12 := hi
    refine ⟨trivial, fun K1 K2 k1 k2 => ?_⟩
    simp only [cName, dYes, cond_true, dOp, dCons, dNil, dVar]
    have e1 : ((wipeG Γ [7]).set 7 (some (.int ((0 : Int) + (i : Int)))))[1]? = some (some (.ref 0)) := by
      rw [List.getElem?_set_ne (by decide)]
      simp only [wipeG]
      first | (rw [List.getElem?_set_ne (by decide)]; exact h1) | (simpa [wipeG] using h1)
    rw [e1]
    dsimp only
    refine ⟨c', ρ, rfl, rfl, by omega, fun c2 t g5 ht => ?_⟩
    exact k1 _ _ ⟨c2, rfl, by simp [g1], fun x hx => by
      rcases List.mem_append.mp hx with z | z
      · exact g2 x z
      · rw [List.mem_singleton.mp z]; exact ht, (by omega), (by omega)⟩
  · rintro acc μ' ⟨c', rfl, g1, g2, g3, g4⟩
    rw [irng_len] at g1 g3
    exact ⟨trivial, q c' acc (by omega) g1 g2⟩
/-! cells that are lists, and their errors -/
def rfs (r : Nat) : List D := [.ref r, .ref (r + 1), .ref (r + 2), .ref (r + 3), .ref (r + 4), .ref (r + 5), .ref (r + 6), .ref (r + 7), .ref (r + 8), .ref (r + 9), .ref (r + 10), .ref (r + 11)]
theorem rfs_range (r : Nat) : (List.range 12).map (fun k => D.ref (r + k)) = rfs r := rfl
def CX (μ : Mu) (b r : Nat) : Prop := CellsX μ b (.ref r) (.ref (r + 1)) (.ref (r + 2)) (.ref (r + 3)) (.ref (r + 4)) (.ref (r + 5)) (.ref (r + 6)) (.ref (r + 7)) (.ref (r + 8)) (.ref (r + 9)) (.ref (r + 10)) (.ref (r + 11))
def mkR (b r : Nat) : List Cell := mkC b (.ref r) (.ref (r + 1)) (.ref (r + 2)) (.ref (r + 3)) (.ref (r + 4)) (.ref (r + 5)) (.ref (r + 6)) (.ref (r + 7)) (.ref (r + 8)) (.ref (r + 9)) (.ref (r + 10)) (.ref (r + 11))
theorem CX.set {μ : Mu} {b r l : Nat} {x : Cell} (h : CX μ b r) (hl : l < b) : CX (μ.set l x) b r := fun i c hc => by
  rw [List.getElem?_set_ne (by omega)]
  exact h i c hc
/-- rows that are cells of some kind, the two lists of errors over them -/
structure LI (μ : Mu) (c r b1 b2 : Nat) (P : Nat → Cell → Prop) : Prop where
  o : μ[0]? = some (.orc (c, true))
  row : ∀ k, k < 12 → ∃ x, μ[r + k]? = some x ∧ P k x
  c1 : CX μ b1 r
  c2 : CX μ b2 r
  r0 : 0 < r
  h1 : r + 12 ≤ b1
  h2 : r + 12 ≤ b2
theorem LI.draw {μ : Mu} {c c' r b1 b2 : Nat} {P : Nat → Cell → Prop} (h : LI μ c r b1 b2 P) : LI (μ.set 0 (.orc (c', true))) c' r b1 b2 P := by
  have hl : 0 < μ.length := (List.getElem?_eq_some_iff.mp h.o).1
  refine ⟨List.getElem?_set_self hl, fun k hk => ?_, h.c1.set (by have := h.h1; omega), h.c2.set (by have := h.h2; omega), h.r0, h.h1, h.h2⟩
  rw [List.getElem?_set_ne (by have := h.r0; omega)]
  exact h.row k hk
theorem LI.put {μ : Mu} {c r b1 b2 i : Nat} {P P' : Nat → Cell → Prop} {y : Cell} (h : LI μ c r b1 b2 P) (hi : i < 12) (hy : P' i y) (hP : ∀ k x, k ≠ i → P k x → P' k x) : LI (μ.set (r + i) y) c r b1 b2 P' := by
  have hr := h.r0
  have hh1 := h.h1
  have hh2 := h.h2
  refine ⟨?_, fun k hk => ?_, h.c1.set (by omega), h.c2.set (by omega), h.r0, h.h1, h.h2⟩
  · rw [List.getElem?_set_ne (by omega)]; exact h.o
  · by_cases e : k = i
    · subst e
      obtain ⟨x, hx, _⟩ := h.row k hk
      exact ⟨y, List.getElem?_set_self (List.getElem?_eq_some_iff.mp hx).1, hy⟩
    · rw [List.getElem?_set_ne (by omega)]
      obtain ⟨x, hx, px⟩ := h.row k hk
      exact ⟨x, hx, hP k x e px⟩
def isL (x : Cell) : Prop := ∃ row : List Int, x = .lst (row.map .int) ∧ row.length ≤ 5
def isD1 (x : Cell) : Prop := ∃ a : Int, x = .dct [(.inr "a", .int a)]
def isD2 (x : Cell) : Prop := ∃ a : Int, x = .dct [(.inr "a", .int a), (.inr "b", .lst [.int a])]
theorem gd_list {μ : Mu} {l : Nat} {x : Cell} (h : μ[l]? = some x) (hx : isL x) : GD μ (.ref l) := by
  obtain ⟨row, rfl, _⟩ := hx
  have e : lk μ (.ref l) = .lst (row.map .int) := by simp only [lk, h]
  have ef : frz μ 11 (.ref l) = .lst (row.map .int) := by
    show (match lk μ (.ref l) with | .lst ds => D.lst (ds.map (frz μ 10)) | .tup ds => .tup (ds.map (frz μ 10)) | .dct kvs => .dct (kvs.map fun (p : Key × D) => (p.1, frz μ 10 p.2)) | e => e) = _
    rw [e]
    show D.lst ((row.map D.int).map (frz μ 10)) = _
    rw [List.map_map]
    rfl
  have ok : D.okn 11 (.lst (row.map .int)) = true := by
    show (row.map D.int).all (D.okn 10) = true
    rw [List.all_map, List.all_eq_true]
    intro i _; rfl
  exact ⟨by rw [ef]; exact okn_good02 11 _ ok, by rw [ef]; exact deqW_okn ok, _, by rw [e]; rfl⟩
theorem gd_dict {μ : Mu} {l : Nat} {x : Cell} (h : μ[l]? = some x) (hx : isD2 x) : GD μ (.ref l) := by
  obtain ⟨a, rfl⟩ := hx
  have e : lk μ (.ref l) = .dct [(.inr "a", .int a), (.inr "b", .lst [.int a])] := by simp only [lk, h]
  have ef : frz μ 11 (.ref l) = .dct [(.inr "a", .int a), (.inr "b", .lst [.int a])] := by
    show (match lk μ (.ref l) with | .lst ds => D.lst (ds.map (frz μ 10)) | .tup ds => .tup (ds.map (frz μ 10)) | .dct kvs => .dct (kvs.map fun (p : Key × D) => (p.1, frz μ 10 p.2)) | e => e) = _
    rw [e]
    rfl
  refine ⟨by rw [ef]; rfl, ?_, _, by rw [e]; rfl⟩
  rw [ef]
  have ek : (([(Sum.inr (Str.ofString "a"), D.int a), (Sum.inr (Str.ofString "b"), .lst [.int a])] : List (Key × D)).map (·.1)).Nodup := by
    show [(Sum.inr (Str.ofString "a") : Key), Sum.inr (Str.ofString "b")].Nodup
    decide +kernel
  unfold deqW
  rw [show D.okn (10 + 1) (.dct [(Sum.inr (Str.ofString "a"), D.int a), (Sum.inr (Str.ofString "b"), .lst [.int a])]) = false from rfl]
  simp only [Bool.and_self, cond_false]
  rw [if_neg (fun z => z.1 rfl), if_pos ⟨ek, ek⟩, dct_refl (k := 10) (f := deqW 10) (fun kv hk => by
    simp only [List.mem_cons, List.not_mem_nil, or_false] at hk
    rcases hk with rfl | rfl <;> exact deqW_okn rfl) _ (fun kv hk => lookD_nodup ek hk) (fun _ h => h)]
  simp
theorem LI.gd {μ : Mu} {c r b1 b2 : Nat} {P : Nat → Cell → Prop} (h : LI μ c r b1 b2 P) (hP : ∀ k x, k < 12 → P k x → isL x ∨ isD2 x) : ∀ t ∈ rfs r, GD μ t := by
  have key : ∀ k, k < 12 → GD μ (.ref (r + k)) := fun k hk => by
    obtain ⟨x, hx, px⟩ := h.row k hk
    rcases hP k x hk px with z | z
    · exact gd_list hx z
    · exact gd_dict hx z
  intro t ht
  rw [← rfs_range] at ht
  obtain ⟨k, hk, rfl⟩ := List.mem_map.mp ht
  exact key k (List.mem_range.mp hk)
def t_law_f0 (C : Cs) : DTS := dDrop (dCellM cAppend (dVar 5) (dCons (dOp S_draw (dCons (dVar 1) (dCons (dC (.int 9)) (dNil)))) dNil))
def t_law_f1 (C : Cs) : DTS := dAsg (dCall gLst (dCons (dBin gDGet (dVar 5) (dC (.str "a"))) (dNil))) (dSetD (dVar 5) (dC (.str "b")))
def t_law_10 (C : Cs) : DTS := dRet (dAnd (dOp S_l_keeps02 (dCons (dBin gIx (dVar 4) (dC (.int 0))) (dCons (dVar 6) (dNil)))) (dOp S_l_keeps02 (dCons (dBin gIx (dVar 4) (dC (.int 1))) (dCons (dVar 6) (dNil)))))
def t_law_9 (C : Cs) : DTS := dSeq (dFor (dIter (dVar 6)) (dName 5) (t_law_f1 C)) (t_law_10 C)
def t_law_8 (C : Cs) : DTS := dSeq (dAsg (dCall gLst (dCons (dOp S_l_all02 (dCons (dVar 6) (dNil))) (dCons (dOp S_l_named02 (dCons (dVar 6) (dNil))) (dNil)))) (dName 4)) (t_law_9 C)
def t_law_7 (C : Cs) : DTS := dSeq (dAsg (dComp true [7] (dRange1 (dC (.int 12))) (cName 7) (dYes) (dDict false [(dC (.str "a"), dOp S_draw (dCons (dVar 1) (dCons (dC (.int 9)) (dNil))))])) (dName 6)) (t_law_8 C)
def t_law_6 (C : Cs) : DTS := dSeq (dIf (dOrT (dNotT (dTest (dOp S_l_keeps02 (dCons (dBin gIx (dVar 4) (dC (.int 0))) (dCons (dVar 3) (dNil)))))) (dNotT (dTest (dOp S_l_keeps02 (dCons (dBin gIx (dVar 4) (dC (.int 1))) (dCons (dVar 3) (dNil))))))) (dRet (dC (.bl false))) (dNext)) (t_law_7 C)
def t_law_5 (C : Cs) : DTS := dSeq (dFor (dIter (dVar 3)) (dName 5) (t_law_f0 C)) (t_law_6 C)
def t_law_4 (C : Cs) : DTS := dSeq (dAsg (dCall gLst (dCons (dOp S_l_all02 (dCons (dVar 3) (dNil))) (dCons (dOp S_l_named02 (dCons (dVar 3) (dNil))) (dNil)))) (dName 4)) (t_law_5 C)
def t_law_3 (C : Cs) : DTS := dSeq (dAsg (dComp true [7] (dRange1 (dC (.int 12))) (cName 7) (dYes) (dCall gLstM (dCons (dOp S_draw (dCons (dVar 1) (dCons (dC (.int 9)) (dNil)))) (dNil)))) (dName 3)) (t_law_4 C)
def t_law_2 (C : Cs) : DTS := dSeq (dIf (dOrT (dNotT (dTest (dOp S_l_keeps02 (dCons (dOp S_l_all02 (dCons (dVar 2) (dNil))) (dCons (dVar 2) (dNil)))))) (dNotT (dTest (dOp S_l_keeps02 (dCons (dOp S_l_named02 (dCons (dVar 2) (dNil))) (dCons (dVar 2) (dNil))))))) (dRet (dC (.bl false))) (dNext)) (t_law_3 C)
def t_law_1 (C : Cs) : DTS := dSeq (dAsg (dComp true [7] (dRange1 (dC (.int 12))) (cName 7) (dYes) (dOp S_l_thing02 (dCons (dVar 1) (dNil)))) (dName 2)) (t_law_2 C)
def t_law (C : Cs) : DTS := dSeq (dAsg (dOp S_start (dCons (dVar 0) (dNil))) (dName 1)) (t_law_1 C)
section
variable {C : Cs} {ns : List Int} {T : D} {r b1 b2 c : Nat} {μ : Mu} {De : DEnds} {a5 a6 a7 : Option D}
theorem rfs_get {r i : Nat} {d : D} (h : (rfs r)[i]? = some d) : i < 12 ∧ d = .ref (r + i) := by
  rw [← rfs_range, List.getElem?_map] at h
  cases e : (List.range 12)[i]? with
  | none => rw [e] at h; cases h
  | some k =>
    rw [e] at h
    cases h
    obtain ⟨h1, h2⟩ := List.getElem?_eq_some_iff.mp e
    rw [List.length_range] at h1
    rw [List.getElem_range] at h2
    exact ⟨h1, by rw [h2]⟩
def P1 (i : Nat) (k : Nat) (x : Cell) : Prop := ∃ row : List Int, x = .lst (row.map .int) ∧ row.length ≤ if k < i then 2 else 1
def P2 (i : Nat) (k : Nat) (x : Cell) : Prop := if k < i then isD2 x else isD1 x
theorem law_f0 (h : LI μ c r b1 b2 (P1 0)) (hc : 12 ≤ c) (q : ∀ μ' c' a5, LI μ' c' r b1 b2 (P1 12) → c ≤ c' + 12 → De.nx [some (.scr ns), some (.ref 0), some T, some (.lst (rfs r)), some (.lst [.lst (refX b1), .lst (refX b2)]), a5, a6, a7] μ') :
    dFor (dIter (dVar 3)) (dName 5) (t_law_f0 C) De [some (.scr ns), some (.ref 0), some T, some (.lst (rfs r)), some (.lst [.lst (refX b1), .lst (refX b2)]), a5, a6, a7] μ := by
  simp only [dFor, dIter, dVar, List.getElem?_cons_succ, List.getElem?_cons_zero]
  refine loop_inv (src := none) (fun i Γ μ' => ∃ c' a5, LI μ' c' r b1 b2 (P1 i) ∧ c ≤ c' + i ∧ i ≤ 12 ∧ Γ = [some (.scr ns), some (.ref 0), some T, some (.lst (rfs r)), some (.lst [.lst (refX b1), .lst (refX b2)]), a5, a6, a7]) ⟨c, a5, h, by omega, by omega, rfl⟩ ?_ ?_
  · rintro i d Γ μ' hd ⟨c', a5', hL, g1, g2, rfl⟩
    obtain ⟨hi, rfl⟩ := rfs_get hd
    refine ⟨trivial, fun Kn kn => ?_⟩
    simp only [dName, List.set_cons_succ, List.set_cons_zero]
    unfold t_law_f0
    obtain ⟨x, hx, row, rfl, hrow⟩ := hL.row i hi
    rw [if_neg (by omega)] at hrow
    simp only [dDrop, dCellM, dVar, dCons, dNil, dOp, dC, List.getElem?_cons_succ, List.getElem?_cons_zero, hx]
    refine ⟨0, c' - 1, 9, rfl, by rw [hL.o]; congr 3; omega, by decide, by decide, fun d d0 d1 => ?_⟩
    have hD := hL.draw (c' := c' - 1)
    have hx2 : (μ'.set 0 (.orc (c' - 1, true)))[r + i]? = some (.lst (row.map .int)) := by
      rw [List.getElem?_set_ne (by have := hL.r0; omega)]; exact hx
    dsimp only
    rw [hx2]
    dsimp only [cAppend]
    rw [if_pos (by rw [List.length_map, sizeLine_eq]; omega)]
    dsimp only
    refine kn _ _ ⟨c' - 1, _, hD.put (i := i) (P' := P1 (i + 1)) hi ⟨row ++ [d], by simp, by rw [if_pos (by omega)]; simp; omega⟩ ?_, by omega, by omega, rfl⟩
    rintro k y hk ⟨row', rfl, h'⟩
    refine ⟨row', rfl, ?_⟩
    by_cases e : k < i
    · rw [if_pos e] at h'; rw [if_pos (by omega)]; exact h'
    · rw [if_neg e] at h'; rw [if_neg (by omega)]; exact h'
  · rintro Γ μ' ⟨c', a5', hL, g1, g2, rfl⟩
    exact ⟨trivial, q μ' c' a5' hL g1⟩
theorem law_f1 (h : LI μ c r b1 b2 (P2 0)) (q : ∀ μ' a5, LI μ' c r b1 b2 (P2 12) → De.nx [some (.scr ns), some (.ref 0), some T, a6, some (.lst [.lst (refX b1), .lst (refX b2)]), a5, some (.lst (rfs r)), a7] μ') :
    dFor (dIter (dVar 6)) (dName 5) (t_law_f1 C) De [some (.scr ns), some (.ref 0), some T, a6, some (.lst [.lst (refX b1), .lst (refX b2)]), a5, some (.lst (rfs r)), a7] μ := by
  simp only [dFor, dIter, dVar, List.getElem?_cons_succ, List.getElem?_cons_zero]
  refine loop_inv (src := none) (fun i Γ μ' => ∃ a5, LI μ' c r b1 b2 (P2 i) ∧ i ≤ 12 ∧ Γ = [some (.scr ns), some (.ref 0), some T, a6, some (.lst [.lst (refX b1), .lst (refX b2)]), a5, some (.lst (rfs r)), a7]) ⟨a5, h, by omega, rfl⟩ ?_ ?_
  · rintro i d Γ μ' hd ⟨a5', hL, g2, rfl⟩
    obtain ⟨hi, rfl⟩ := rfs_get hd
    refine ⟨trivial, fun Kn kn => ?_⟩
    simp only [dName, List.set_cons_succ, List.set_cons_zero]
    unfold t_law_f1
    obtain ⟨x, hx, px⟩ := hL.row i hi
    unfold P2 at px
    rw [if_neg (by omega)] at px
    obtain ⟨a, rfl⟩ := px
    have e : lk μ' (.ref (r + i)) = .dct [(.inr "a", .int a)] := by simp only [lk, hx]
    simp only [dAsg, dCall, dBin, dVar, dCons, dNil, dC, List.getElem?_cons_succ, List.getElem?_cons_zero, gDGet, e]
    refine ⟨szl (by simp), ?_⟩
    simp only [dSetD, dVar, dC, List.getElem?_cons_succ, List.getElem?_cons_zero, keyOfD]
    rw [hx]
    dsimp only
    refine ⟨by rw [sizeLine_eq]; simp, ?_⟩
    refine kn _ _ ⟨_, hL.put (i := i) (P' := P2 (i + 1)) hi ?_ ?_, by omega, rfl⟩
    · unfold P2
      rw [if_pos (by omega)]
      exact ⟨a, rfl⟩
    · intro k y hk hy
      unfold P2 at hy ⊢
      by_cases e : k < i
      · rw [if_pos e] at hy; rw [if_pos (by omega)]; exact hy
      · rw [if_neg e] at hy; rw [if_neg (by omega)]; exact hy
  · rintro Γ μ' ⟨a5', hL, g2, rfl⟩
    exact ⟨trivial, q μ' a5' hL⟩
end
section
variable {C : Cs} {ns : List Int} {T : D} {c r b1 b2 : Nat} {ρ μ : Mu} {De : DEnds} {Q : D → Mu → Prop} {E : Exn → Mu → Prop} {a3 a4 a5 a6 a7 : Option D}
theorem om_len {c : Nat} {ρ : Mu} : (OM c ρ).length = ρ.length + 1 := rfl
/-- twelve cells made by draws -/
theorem cells_go {te : DTE} {mk : Int → Cell} {Γ : Gam} {R : D → Mu → Prop} {E : Exn → Mu → Prop} (hl : Γ.length = 8) (hc : 12 ≤ c)
    (hte : ∀ (k : Nat) (c' : Nat) (ρ' : Mu) (K : D → Mu → Prop), 0 < c' → (∀ c2 d, c' ≤ c2 + 1 → K (.ref (ρ'.length + 1)) (OM c2 (ρ' ++ [mk d]))) → te ((wipeG Γ [7]).set 7 (some (.int ((0 : Int) + (k : Int))))) (OM c' ρ') K fun _ _ => False)
    (q : ∀ c' (xs : List Int), c ≤ c' + 12 → xs.length = 12 → R (.lst (rfs (ρ.length + 1))) (OM c' (ρ ++ xs.map mk))) :
    dComp true [7] (dRange1 (dC (.int 12))) (cName 7) (dYes) te Γ (OM c ρ) R E := by
  rw [dComp]
  unfold dRange1
  simp only [dC]
  refine ⟨by decide, ?_⟩
  refine comp_inv (fun i acc μ' => ∃ (c' : Nat) (xs : List Int), μ' = OM c' (ρ ++ xs.map mk) ∧ xs.length = i ∧ acc = (List.range i).map (fun k => D.ref (ρ.length + 1 + k)) ∧ c ≤ c' + i ∧ i ≤ 12) ⟨c, [], by simp, rfl, rfl, by omega, by omega⟩ (by rw [irng_len, sizeLine_eq]; decide) ?_ ?_
  · rintro i d acc μ' hd ⟨c', xs, rfl, g1, rfl, g3, g4⟩
    obtain ⟨hi, rfl⟩ := irng_get hd
    have hi : i < 12 := hi
    refine ⟨trivial, fun K1 K2 k1 k2 => ?_⟩
    simp only [cName, dYes, cond_true]
    refine hte i c' _ K1 (by omega) fun c2 d h2 => ?_
    refine k1 _ _ ⟨c2, xs ++ [d], by rw [List.map_append, List.append_assoc]; rfl, by simp [g1], ?_, by omega, by omega⟩
    rw [List.range_succ, List.map_append]
    congr 1
    simp only [List.map_cons, List.map_nil, List.length_append, List.length_map, g1]
    congr 2
    omega
  · rintro acc μ' ⟨c', xs, rfl, g1, rfl, g3, g4⟩
    rw [irng_len] at g1 g3
    exact ⟨trivial, q c' xs (by omega) g1⟩
/-- both lists of errors over twelve cells -/
theorem both_go {f : DTE} {Γ : Gam} {R : D → Mu → Prop} {E : Exn → Mu → Prop} (hf : ∀ μ', EV f (.lst (rfs r)) Γ μ') (q : R (.lst [.lst (refX μ.length), .lst (refX (μ.length + 27))]) (μ ++ mkR μ.length r ++ mkR (μ.length + 27) r)) :
    dCall gLst (dCons (dOp S_l_all02 (dCons f dNil)) (dCons (dOp S_l_all02 (dCons f dNil)) dNil)) Γ μ R E := by
  simp only [dCall, dCons, dNil]
  refine all_go (f := f) (hf μ) ?_
  refine all_go (f := f) (hf _) ?_
  refine ⟨szl (by simp), ?_⟩
  have e : (μ ++ mkC μ.length (.ref r) (.ref (r + 1)) (.ref (r + 2)) (.ref (r + 3)) (.ref (r + 4)) (.ref (r + 5)) (.ref (r + 6)) (.ref (r + 7)) (.ref (r + 8)) (.ref (r + 9)) (.ref (r + 10)) (.ref (r + 11))).length = μ.length + 27 := by rw [List.length_append]; rfl
  rw [e]
  exact q
/-- the two lists looked at -/
theorem looks_go {P : Nat → Cell → Prop} {j : Nat} {Γ : Gam} {R : Bool → Mu → Prop} {E : Exn → Mu → Prop} (h : LI μ c r b1 b2 P) (hP : ∀ k x, k < 12 → P k x → isL x ∨ isD2 x) (h4 : Γ[4]? = some (some (.lst [.lst (refX b1), .lst (refX b2)]))) (hj : Γ[j]? = some (some (.lst (rfs r)))) :
    EV (dOp S_l_keeps02 (dCons (dBin gIx (dVar 4) (dC (.int 0))) (dCons (dVar j) dNil))) (.bl true) Γ μ ∧ EV (dOp S_l_keeps02 (dCons (dBin gIx (dVar 4) (dC (.int 1))) (dCons (dVar j) dNil))) (.bl true) Γ μ :=
  ⟨fun R E q => keeps_go (EV.ixL (i := 0) (EV.var h4) EV.c rfl) (EV.var hj) h.c1 (h.gd hP) q, fun R E q => keeps_go (EV.ixL (i := 1) (EV.var h4) EV.c rfl) (EV.var hj) h.c2 (h.gd hP) q⟩
theorem li_new {mk : Int → Cell} {P : Nat → Cell → Prop} {xs : List Int} (hx : xs.length = 12) (hP : ∀ k a, P k (mk a)) : LI (OM c (ρ ++ xs.map mk) ++ mkR (ρ.length + 13) (ρ.length + 1) ++ mkR (ρ.length + 13 + 27) (ρ.length + 1)) c (ρ.length + 1) (ρ.length + 13) (ρ.length + 13 + 27) P := by
  have hl : (OM c (ρ ++ xs.map mk)).length = ρ.length + 13 := by rw [om_len, List.length_append, List.length_map, hx]
  have hl2 : (OM c (ρ ++ xs.map mk) ++ mkR (ρ.length + 13) (ρ.length + 1)).length = ρ.length + 13 + 27 := by rw [List.length_append, hl]; rfl
  refine ⟨rfl, fun k hk => ?_, ?_, ?_, by omega, by omega, by omega⟩
  · refine ⟨mk (xs[k]'(by omega)), ?_, hP k _⟩
    rw [List.append_assoc, List.getElem?_append_left (by rw [hl]; omega)]
    rw [show ρ.length + 1 + k = (ρ.length + k) + 1 by omega]
    show (ρ ++ xs.map mk)[ρ.length + k]? = _
    rw [List.getElem?_append_right (by omega), Nat.add_sub_cancel_left, List.getElem?_map, List.getElem?_eq_getElem (by omega)]
    rfl
  · have := cells_new (μ := OM c (ρ ++ xs.map mk)) (t0 := .ref (ρ.length + 1)) (t1 := .ref (ρ.length + 1 + 1)) (t2 := .ref (ρ.length + 1 + 2)) (t3 := .ref (ρ.length + 1 + 3)) (t4 := .ref (ρ.length + 1 + 4)) (t5 := .ref (ρ.length + 1 + 5)) (t6 := .ref (ρ.length + 1 + 6)) (t7 := .ref (ρ.length + 1 + 7)) (t8 := .ref (ρ.length + 1 + 8)) (t9 := .ref (ρ.length + 1 + 9)) (t10 := .ref (ρ.length + 1 + 10)) (t11 := .ref (ρ.length + 1 + 11))
    rw [hl] at this
    exact this.app
  · have := cells_new (μ := OM c (ρ ++ xs.map mk) ++ mkR (ρ.length + 13) (ρ.length + 1)) (t0 := .ref (ρ.length + 1)) (t1 := .ref (ρ.length + 1 + 1)) (t2 := .ref (ρ.length + 1 + 2)) (t3 := .ref (ρ.length + 1 + 3)) (t4 := .ref (ρ.length + 1 + 4)) (t5 := .ref (ρ.length + 1 + 5)) (t6 := .ref (ρ.length + 1 + 6)) (t7 := .ref (ρ.length + 1 + 7)) (t8 := .ref (ρ.length + 1 + 8)) (t9 := .ref (ρ.length + 1 + 9)) (t10 := .ref (ρ.length + 1 + 10)) (t11 := .ref (ρ.length + 1 + 11))
    rw [hl2] at this
    exact this
end
theorem EV.and02 {f g : DTE} {b : Bool} {Γ : Gam} {μ : Mu} (h1 : EV f (.bl true) Γ μ) (h2 : EV g (.bl b) Γ μ) : EV (dAnd f g) (.bl b) Γ μ := fun R E q => h1 _ E (h2 R E q)
theorem om_of {c : Nat} {μ : Mu} (h : μ[0]? = some (.orc (c, true))) : ∃ ρ, μ = OM c ρ := by
  cases μ with
  | nil => cases h
  | cons x t => cases h; exact ⟨t, rfl⟩
def S_law : DSp := fun ds μ Q _ => ∃ ns : List Int, ds = [.scr ns] ∧ ns.length ≤ 63 ∧ μ = [] ∧ ∀ μ', Q (.bl true) μ'
section
variable {C : Cs} {ns : List Int} {T : D} {c r b1 b2 : Nat} {ρ μ : Mu} {Q : D → Mu → Prop} {E : Exn → Mu → Prop} {a3 a4 a5 a6 a7 : Option D}
theorem law_7 (hc : 100 ≤ c) (q : ∀ μ', Q (.bl true) μ') : t_law_7 C (dFn [] Q E) [some (.scr ns), some (.ref 0), some T, a3, a4, a5, a6, a7] (OM c ρ) := by
  unfold t_law_7
  rw [dSeq, dAsg]
  refine cells_go (mk := fun d => .dct [(.inr "a", .int d)]) rfl (by omega) (fun k c' ρ' K h0 hK => ?_) (fun c1 xs h1 hx => ?_)
  · simp only [dDict, dPairs, dOp, dCons, dNil, dVar, dC, wipeG, List.set_cons_succ, List.set_cons_zero, List.getElem?_cons_succ, List.getElem?_cons_zero]
    refine draw_OM h0 (by decide) (by decide) fun c2 d h2 d0 d1 => ?_
    exact ⟨by simp, hK c2 d h2⟩
  simp only [dName, List.set_cons_succ, List.set_cons_zero]
  unfold t_law_8
  rw [dSeq, dAsg]
  refine both_go (f := dVar 6) (fun _ => EV.var rfl) ?_
  have hl : (OM c1 (ρ ++ xs.map fun d => Cell.dct [(.inr "a", .int d)])).length = ρ.length + 13 := by rw [om_len, List.length_append, List.length_map, hx]
  rw [hl]
  simp only [dName, List.set_cons_succ, List.set_cons_zero]
  have hL := li_new (ρ := ρ) (c := c1) (mk := fun d => .dct [(.inr "a", .int d)]) (P := P2 0) hx (fun k a => by unfold P2; rw [if_neg (by omega)]; exact ⟨a, rfl⟩)
  unfold t_law_9
  rw [dSeq]
  refine law_f1 hL fun μ' a5' hL2 => ?_
  unfold t_law_10
  have hP : ∀ k x, k < 12 → P2 12 k x → isL x ∨ isD2 x := fun k x hk hx => by unfold P2 at hx; rw [if_pos hk] at hx; exact .inr hx
  obtain ⟨k1, k2⟩ := looks_go (j := 6) (Γ := [some (.scr ns), some (.ref 0), some T, a3, some (.lst [.lst (refX (ρ.length + 13)), .lst (refX (ρ.length + 13 + 27))]), a5', some (.lst (rfs (ρ.length + 1))), a7]) (R := fun _ _ => True) (E := fun _ _ => True) hL2 hP rfl rfl
  refine ret_ev (EV.and02 k1 k2) ?_
  exact FnEnd.here (q _)
theorem law_3 (hc : 200 ≤ c) (q : ∀ μ', Q (.bl true) μ') : t_law_3 C (dFn [] Q E) [some (.scr ns), some (.ref 0), some T, a3, a4, a5, a6, a7] (OM c ρ) := by
  unfold t_law_3
  rw [dSeq, dAsg]
  refine cells_go (mk := fun d => .lst [.int d]) rfl (by omega) (fun k c' ρ' K h0 hK => ?_) (fun c1 xs h1 hx => ?_)
  · simp only [dCall, dOp, dCons, dNil, dVar, dC, gLstM, wipeG, List.set_cons_succ, List.set_cons_zero, List.getElem?_cons_succ, List.getElem?_cons_zero]
    refine draw_OM h0 (by decide) (by decide) fun c2 d h2 d0 d1 => ?_
    exact ⟨szl (by simp), hK c2 d h2⟩
  simp only [dName, List.set_cons_succ, List.set_cons_zero]
  unfold t_law_4
  rw [dSeq, dAsg]
  refine both_go (f := dVar 3) (fun _ => EV.var rfl) ?_
  have hl : (OM c1 (ρ ++ xs.map fun d => Cell.lst [.int d])).length = ρ.length + 13 := by rw [om_len, List.length_append, List.length_map, hx]
  rw [hl]
  simp only [dName, List.set_cons_succ, List.set_cons_zero]
  have hL := li_new (ρ := ρ) (c := c1) (mk := fun d => .lst [.int d]) (P := P1 0) hx (fun k a => ⟨[a], rfl, by rw [if_neg (by omega)]; simp⟩)
  unfold t_law_5
  rw [dSeq]
  refine law_f0 hL (by omega) fun μ' c2 a5' hL2 h2 => ?_
  have hP : ∀ k x, k < 12 → P1 12 k x → isL x ∨ isD2 x := fun k x hk hx => by
    obtain ⟨row, rfl, h⟩ := hx
    rw [if_pos hk] at h
    exact .inl ⟨row, rfl, by omega⟩
  obtain ⟨k1, k2⟩ := looks_go (j := 3) (Γ := [some (.scr ns), some (.ref 0), some T, some (.lst (rfs (ρ.length + 1))), some (.lst [.lst (refX (ρ.length + 13)), .lst (refX (ρ.length + 13 + 27))]), a5', a6, a7]) (R := fun _ _ => True) (E := fun _ _ => True) hL2 hP rfl rfl
  unfold t_law_6
  refine skip (SY.or (SY.nott (SY.test (v := true) k1)) (SY.nott (SY.test (v := true) k2))) ?_
  obtain ⟨ρ', rfl⟩ := om_of hL2.o
  exact law_7 (by omega) q
theorem rd_law {n1 n2 n3 n4 n5 n6 n7 n8 : Str} : ∀ ds μ Q E, S_law ds μ Q E → t_law C (dFn μ Q E) (start0 [n1, n2, n3, n4, n5, n6, n7, n8] ds) μ := by
  rintro ds μ Q E ⟨ns, rfl, hl, rfl, q⟩
  unfold t_law
  rw [dSeq]
  simp only [dAsg, dOp, dCons, dNil, dVar, dName, start0, List.map_cons, List.map_nil, List.length_cons, List.length_nil, List.replicate, List.cons_append, List.nil_append, List.getElem?_cons_zero, List.set_cons_succ, List.set_cons_zero]
  refine ⟨ns, rfl, hl, by simp, ?_⟩
  dsimp only
  unfold t_law_1
  rw [dSeq, dAsg]
  refine things_go (c := 1099511627776) (ρ := []) rfl rfl (by decide) fun c1 ts h1 hlen hts => ?_
  obtain ⟨t0, t1, t2, t3, t4, t5, t6, t7, t8, t9, t10, t11, rfl⟩ := twelve hlen
  simp only [dName, List.set_cons_succ, List.set_cons_zero]
  unfold t_law_2
  simp only [dSeq, dIf, dOrT, dNotT, dTest]
  refine keeps_all (f := dVar 2) (fun _ => EV.var rfl) (fun t ht => (hts t ht).gd' _) ?_
  simp only [Bool.not_true, cond_false]
  refine keeps_all (f := dVar 2) (fun _ => EV.var rfl) (fun t ht => (hts t ht).gd' _) ?_
  simp only [Bool.not_true, cond_false]
  exact law_3 (by omega) q
end
end DV
/-! for shorter printed texts -/
namespace DV
open PySem PySem.Spec PyProof.Rows L2
theorem tkhp {X : Cx} {E : XK} (h1 : X.stack = X.env :: X.outer) (h2 : X.env.frame = some X.env.locals) (h3 : X.ex = []) {E₁ : Value → Shared → Prop}
    (h4 : X.xe = fun e s' => wpAny (model X.prog X.w) X.A (leaving X.env e) (fun x s'' => L2N.CX X.prog X.w X.outer X.H_0 X.s_0 E e s'') E₁ s') :
    L2N.Takes X (fun cls d _ H => E cls d H) ∧ PassesOwn (model X.prog X.w) X.A X.env X.xe := ⟨L2N.takes_of h1 h2 h3 h4, passes_of h4⟩
end DV
/-! Walks of lists, tuples and texts that end while an exception is handled. -/
namespace HotX
open PySem PySem.Spec PyProof.Rows
end HotX
/-! for and comprehensions while an exception is handled. -/
namespace L2H
open PySem PySem.Spec PyProof.Rows L2 HotX
end L2H
/-! List comprehensions while an exception is handled: the block's context keeps hold of the exception. -/
namespace L2H
open PySem PySem.Spec PyProof.Rows L2 HotX
end L2H
/-! Own functions called within an except suite, deep: what they may do there. -/
namespace DV
open PySem PySem.Spec PyProof.Rows L2 L2H
theorem _root_.L2H.RoomH.units {k : Nat} {A : Around} (r : RoomH k A) : A.units + 64 < cLine := by have := r.un; omega
theorem takes0N {X : Cx} : L2N.Takes X W0 := fun _ _ c => by
  obtain ⟨_, _, _, _, _, _, _, _, _, _, _, _, _, _, _, _, z⟩ := c
  exact z.elim
section
variable {X : Cx} {W : WX} {tg iter a e : Expr} {f : DTE} {p pos : Pos}
theorem PIH.imp {wi wi' : TI} (h : PIH X tg iter wi) (k : ∀ σ H R, wi' σ H R → wi σ H R) : PIH X tg iter wi' := ⟨fun pins s σ H R I q => h.run pins s σ H R I (k σ H R q)⟩
end
end DV
/-! More of what may be done while an exception is handled: for, range, max. -/
namespace HotX
open PySem PySem.Spec PyProof.Rows
end HotX
namespace DV
open PySem PySem.Spec PyProof.Rows L2 L2H HotX
theorem _root_.L2H.FnH.imp {P : Program} {w : World} {K : PySem.W.Frag} {mg : Str → Option Value} {base : Heap} {CX : CXT} {k : Nat} {f : Addr} {fd : FuncData} {ps : List Str} {sp sp' : Sp} (F : FnH P w K mg base CX k f fd ps sp) (h : ∀ vs H Q E, sp' vs H Q E → sp vs H Q E) : FnH P w K mg base CX k f fd ps sp' :=
  ⟨fun vs H Q E z => F.len vs H Q E (h _ _ _ _ z), fun A outer s H args us vs Q E p hr hot hpin e0 hb r z => F.run A outer s H args us vs Q E p hr hot hpin e0 hb r (h _ _ _ _ z)⟩
end DV
/-! A list comprehension right in an except suite. -/
namespace DV
open PySem PySem.Spec PyProof.Rows L2 L2H
end DV
namespace K02
open PySem PySem.Spec PyProof.Rows L2 DV
structure Txt (K : PySem.W.Frag) (C : Cs) (mg : Str → Option Value) : Prop where
  m_ValueError : mg "ValueError" = none
  m_len : mg "len" = none
  m_abs : mg "abs" = none
  m_int : mg "int" = none
  m_list : mg "list" = none
  m_range : mg "range" = none
  m_isinstance : mg "isinstance" = none
  m_bool : mg "bool" = none
  g_BadCell : mg "BadCell" = some (.ref (xa K .BadCell))
  g_BadCount : mg "BadCount" = some (.ref (xa K .BadCount))
  g_BadLine : mg "BadLine" = some (.ref (xa K .BadLine))
  g_BadName : mg "BadName" = some (.ref (xa K .BadName))
  g_BadSet : mg "BadSet" = some (.ref (xa K .BadSet))
  g_BadSide : mg "BadSide" = some (.ref (xa K .BadSide))
  g_BadText : mg "BadText" = some (.ref (xa K .BadText))
  g_BadWish : mg "BadWish" = some (.ref (xa K .BadWish))
  g_DuplicateName : mg "DuplicateName" = some (.ref (xa K .DuplicateName))
  g_IsFirm : mg "IsFirm" = some (.ref (xa K .IsFirm))
  g_IsSmooth : mg "IsSmooth" = some (.ref (xa K .IsSmooth))
  g_NotFirm : mg "NotFirm" = some (.ref (xa K .NotFirm))
  g_NothingToUndo : mg "NothingToUndo" = some (.ref (xa K .NothingToUndo))
  g_UnknownName : mg "UnknownName" = some (.ref (xa K .UnknownName))
  g_UnlikeOutcomes : mg "UnlikeOutcomes" = some (.ref (xa K .UnlikeOutcomes))
  x_BadCell_value : XfC K (xa K .BadCell) ∧ PySem.W.findIn K (.ref (xa K .BadCell)) "value" = some none
  x_BadCount_count : XfC K (xa K .BadCount) ∧ PySem.W.findIn K (.ref (xa K .BadCount)) "count" = some none
  x_BadLine_number : XfC K (xa K .BadLine) ∧ PySem.W.findIn K (.ref (xa K .BadLine)) "number" = some none
  x_BadName_name : XfC K (xa K .BadName) ∧ PySem.W.findIn K (.ref (xa K .BadName)) "name" = some none
  x_BadSet_value : XfC K (xa K .BadSet) ∧ PySem.W.findIn K (.ref (xa K .BadSet)) "value" = some none
  x_BadSide_word : XfC K (xa K .BadSide) ∧ PySem.W.findIn K (.ref (xa K .BadSide)) "word" = some none
  x_BadText_text : XfC K (xa K .BadText) ∧ PySem.W.findIn K (.ref (xa K .BadText)) "text" = some none
  x_BadWish_value : XfC K (xa K .BadWish) ∧ PySem.W.findIn K (.ref (xa K .BadWish)) "value" = some none
  x_DuplicateName_name : XfC K (xa K .DuplicateName) ∧ PySem.W.findIn K (.ref (xa K .DuplicateName)) "name" = some none
  x_NotFirm_value : XfC K (xa K .NotFirm) ∧ PySem.W.findIn K (.ref (xa K .NotFirm)) "value" = some none
  x_UnknownName_name : XfC K (xa K .UnknownName) ∧ PySem.W.findIn K (.ref (xa K .UnknownName)) "name" = some none
  x_UnlikeOutcomes_names : XfC K (xa K .UnlikeOutcomes) ∧ PySem.W.findIn K (.ref (xa K .UnlikeOutcomes)) "names" = some none
  isv : IsV [.BadName, .DuplicateName, .UnknownName, .BadCount, .BadText, .BadSet, .BadCell, .BadSide, .BadLine, .BadWish, .UnlikeOutcomes, .IsFirm, .IsSmooth, .NotFirm, .NothingToUndo] K
  bX : BaseX K (He.ga K "ChooserError")
  g_Base : mg "ChooserError" = some (.ref (He.ga K "ChooserError"))
section
variable {P : Program} {w : World} {K : PySem.W.Frag} {mg : Str → Option Value} {base : Heap} {C : Cs}
local macro_rules | `(tactic| walk_at "lenp") => `(tactic| (intro ds μ Q E h; first | (obtain ⟨e, _⟩ := h; cases e; rfl; done) | (obtain ⟨_, e, _⟩ := h; cases e; rfl; done) | (obtain ⟨_, _, e, _⟩ := h; cases e; rfl; done) | (obtain ⟨_, _, _, e, _⟩ := h; cases e; rfl; done) | (obtain ⟨_, _, _, _, e, _⟩ := h; cases e; rfl; done) | (obtain ⟨_, _, _, _, _, e, _⟩ := h; cases e; rfl; done) | (obtain ⟨_, _, _, _, _, _, e, _⟩ := h; cases e; rfl; done) | (obtain ⟨_, _, _, _, _, _, _, e, _⟩ := h; cases e; rfl; done) | (obtain ⟨_, _, _, _, _, _, _, _, e, _⟩ := h; cases e; rfl; done) | (obtain ⟨_, _, _, _, _, _, _, _, _, e, _⟩ := h; cases e; rfl; done) | (obtain ⟨_, _, _, _, _, _, _, _, _, _, e, _⟩ := h; cases e; rfl; done) | (obtain ⟨_, _, _, _, _, _, _, _, _, _, _, e, _⟩ := h; cases e; rfl; done) | (obtain ⟨_, _, _, _, _, _, _, _, _, _, _, _, e, _⟩ := h; cases e; rfl; done) | (obtain ⟨_, _, _, _, _, _, _, _, _, _, _, _, _, e, _⟩ := h; cases e; rfl; done) | (obtain ⟨_, _, _, _, _, _, _, _, _, _, _, _, _, _, e, _⟩ := h; cases e; rfl; done) | (obtain ⟨_, _, _, _, _, _, _, _, _, _, _, _, _, _, _, e, _⟩ := h; cases e; rfl; done) | (obtain ⟨_, _, _, _, _, _, _, _, _, _, _, _, _, _, _, _, e, _⟩ := h; cases e; rfl; done) | (rcases h with ⟨_, e | e, _⟩ <;> cases e <;> rfl) | (rcases h with ⟨_, _, e | e, _⟩ <;> cases e <;> rfl) | (rcases h with h | h <;> first | (obtain ⟨e, _⟩ := h; cases e; rfl; done) | (obtain ⟨_, e, _⟩ := h; cases e; rfl; done) | (obtain ⟨_, _, e, _⟩ := h; cases e; rfl; done) | (obtain ⟨_, _, _, e, _⟩ := h; cases e; rfl; done) | (obtain ⟨_, _, _, _, e, _⟩ := h; cases e; rfl; done) | (obtain ⟨_, _, _, _, _, e, _⟩ := h; cases e; rfl; done) | (obtain ⟨_, _, _, _, _, _, e, _⟩ := h; cases e; rfl; done) | (obtain ⟨_, _, _, _, _, _, _, e, _⟩ := h; cases e; rfl; done) | (obtain ⟨_, _, _, _, _, _, _, _, e, _⟩ := h; cases e; rfl; done) | (obtain ⟨_, _, _, _, _, _, _, _, _, e, _⟩ := h; cases e; rfl; done) | (obtain ⟨_, _, _, _, _, _, _, _, _, _, e, _⟩ := h; cases e; rfl; done) | (obtain ⟨_, _, _, _, _, _, _, _, _, _, _, e, _⟩ := h; cases e; rfl; done) | (obtain ⟨_, _, _, _, _, _, _, _, _, _, _, _, e, _⟩ := h; cases e; rfl; done) | (obtain ⟨_, _, _, _, _, _, _, _, _, _, _, _, _, e, _⟩ := h; cases e; rfl; done) | (obtain ⟨_, _, _, _, _, _, _, _, _, _, _, _, _, _, e, _⟩ := h; cases e; rfl; done) | (obtain ⟨_, _, _, _, _, _, _, _, _, _, _, _, _, _, _, e, _⟩ := h; cases e; rfl; done) | (obtain ⟨_, _, _, _, _, _, _, _, _, _, _, _, _, _, _, _, e, _⟩ := h; cases e; rfl; done) | (rcases h with ⟨_, e | e, _⟩ <;> cases e <;> rfl))))
local macro_rules | `(tactic| walk_at "lenq") => `(tactic| (intro ds μ Q h; first | (obtain ⟨e, _⟩ := h; cases e; rfl; done) | (obtain ⟨_, e, _⟩ := h; cases e; rfl; done) | (obtain ⟨_, _, e, _⟩ := h; cases e; rfl; done) | (obtain ⟨_, _, _, e, _⟩ := h; cases e; rfl; done) | (obtain ⟨_, _, _, _, e, _⟩ := h; cases e; rfl; done) | (obtain ⟨_, _, _, _, _, e, _⟩ := h; cases e; rfl; done) | (obtain ⟨_, _, _, _, _, _, e, _⟩ := h; cases e; rfl; done) | (obtain ⟨_, _, _, _, _, _, _, e, _⟩ := h; cases e; rfl; done) | (obtain ⟨_, _, _, _, _, _, _, _, e, _⟩ := h; cases e; rfl; done) | (obtain ⟨_, _, _, _, _, _, _, _, _, e, _⟩ := h; cases e; rfl; done) | (obtain ⟨_, _, _, _, _, _, _, _, _, _, e, _⟩ := h; cases e; rfl; done) | (obtain ⟨_, _, _, _, _, _, _, _, _, _, _, e, _⟩ := h; cases e; rfl; done) | (obtain ⟨_, _, _, _, _, _, _, _, _, _, _, _, e, _⟩ := h; cases e; rfl; done) | (obtain ⟨_, _, _, _, _, _, _, _, _, _, _, _, _, e, _⟩ := h; cases e; rfl; done) | (obtain ⟨_, _, _, _, _, _, _, _, _, _, _, _, _, _, e, _⟩ := h; cases e; rfl; done) | (obtain ⟨_, _, _, _, _, _, _, _, _, _, _, _, _, _, _, e, _⟩ := h; cases e; rfl; done) | (obtain ⟨_, _, _, _, _, _, _, _, _, _, _, _, _, _, _, _, e, _⟩ := h; cases e; rfl; done)))
local macro_rules | `(tactic| walk_at "or") => `(tactic| first | exact Or.inl rfl | exact Or.inr rfl)
local macro_rules | `(tactic| walk_at "sc") => `(tactic| exact ⟨rfl, rfl, rfl, by decide +kernel, rfl, by decide +kernel, by decide +kernel⟩)
section
variable (P : Program) (w : World) (K : PySem.W.Frag) (mg : Str → Option Value) (base : Heap) (C : Cs)
abbrev Y1 := HasE P w K mg base .BadName "name"
abbrev Y2 := HasE P w K mg base .DuplicateName "name"
abbrev Y3 := HasE P w K mg base .UnknownName "name"
abbrev Y4 := HasE P w K mg base .BadCount "count"
abbrev Y5 := HasE P w K mg base .BadText "text"
abbrev Y6 := HasE P w K mg base .BadSet "value"
abbrev Y7 := HasE P w K mg base .BadCell "value"
abbrev Y8 := HasE P w K mg base .BadSide "word"
abbrev Y9 := HasE P w K mg base .BadLine "number"
abbrev Y10 := HasE P w K mg base .BadWish "value"
abbrev Y11 := HasE P w K mg base .UnlikeOutcomes "names"
abbrev Y12 := HasE P w K mg base .NotFirm "value"
abbrev Y13 := HasE0 P w K mg base .IsFirm
abbrev Y14 := HasE0 P w K mg base .IsSmooth
abbrev Y15 := HasE0 P w K mg base .NothingToUndo
abbrev Y16 := Has P w K mg base "_law_start" 1 ["_law_script"] S_start (fun _ => True)
abbrev Y17 := Has P w K mg base "_law_draw" 1 ["_law_state", "_law_size"] S_draw (fun _ => True)
abbrev Y18 := Has P w K mg base "_law_signs" 1 [] S_l_signs02 (fun _ => True)
abbrev Y19 := Has P w K mg base "_law_kinds" 1 ["_law_e"] S_l_kinds02 (fun _ => True)
abbrev Y20 := Has P w K mg base "_law_thing" 2 ["_law_state"] S_l_thing02 (fun _ => True)
abbrev Y21 := Has P w K mg base "_law_all" 3 ["_law_t"] S_l_all02 (fun _ => True)
abbrev Y22 := Has P w K mg base "_law_named" 3 ["_law_t"] S_l_named02 (fun _ => True)
abbrev Y23 := Has P w K mg base "_law_keeps" 2 ["_law_made", "_law_t"] S_l_keeps02 (fun _ => True)
end
abbrev N1 : List Str := ["_law_script", "_law_cell"]
abbrev N2 : List Str := ["_law_state", "_law_size", "_law_digit", "_law_cell", "_law_one"]
abbrev N3 : List Str := ["_law_e", "_law_kinds_here"]
abbrev N4 : List Str := ["_law_state", "_law_amount", "_law_signs_here", "_law_scrap", "_law_k"]
abbrev N5 : List Str := ["_law_made", "_law_t", "_law_k", "_law_told", "_law_truths", "_law_item", "_law_j"]
abbrev N6 : List Str := ["_law_script", "_law_state", "_law_t", "_law_lists", "_law_both", "_law_row", "_law_dicts", "_law_k"]
theorem sc_BadName__init_ : FnScope ["self", "name"] ["self", "name"] (defScope s_BadName__init_) := by walk_at "sc"
theorem has_BadName__init_ (T : Txt K C mg) {f : Addr} {fd : FuncData} (F : Fun K "__init__" "BadName.__init__" s_BadName__init_ f fd) (m : ErrC K .BadName f) (b : Binds K fd ["self", "name"] []) (no : PySem.W.findIn K (.ref (xa K .BadName)) "name" = some none) : Y1 P w K mg base := by
  refine ⟨f, fd, "self", "name", T.g_BadName, m, b, ok_I1 (m := "this string is not a name") F sc_BadName__init_ m.T no fun cdv A outer s H E => ?_⟩
  exact pss_cons (ps_expr (pe_baseInit T.bX rfl T.g_Base rfl (pa_cons (pe_var (i := 0) rfl (by first | exact Or.inl rfl | exact Or.inr (Or.inl rfl))) (pa_cons pe_str pa_nil)))) (pss_one (ps_ost (pe_var (i := 0) rfl (by first | exact Or.inl rfl | exact Or.inr (Or.inl rfl))) (pe_var (i := 1) rfl (by first | exact Or.inl rfl | exact Or.inr (Or.inl rfl)))))
theorem hasX_BadName__init_ (T : Txt K C mg) {f : Addr} {fd : FuncData} (F : Fun K "__init__" "BadName.__init__" s_BadName__init_ f fd) (m : ErrC K .BadName f) (b : Binds K fd ["self", "name"] []) (kb : KBd K fd ["self", "name"] 1 ["name"] (up1 [0])) (no : PySem.W.findIn K (.ref (xa K .BadName)) "name" = some none) : HasEk P w K mg base .BadName "name" "name" := by
  refine ⟨f, fd, "self", "name", T.g_BadName, m, b, kb, ok_I1 (m := "this string is not a name") F sc_BadName__init_ m.T no fun cdv A outer s H E => ?_⟩
  exact pss_cons (ps_expr (pe_baseInit T.bX rfl T.g_Base rfl (pa_cons (pe_var (i := 0) rfl (by first | exact Or.inl rfl | exact Or.inr (Or.inl rfl))) (pa_cons pe_str pa_nil)))) (pss_one (ps_ost (pe_var (i := 0) rfl (by first | exact Or.inl rfl | exact Or.inr (Or.inl rfl))) (pe_var (i := 1) rfl (by first | exact Or.inl rfl | exact Or.inr (Or.inl rfl)))))
theorem sc_DuplicateName__init_ : FnScope ["self", "name"] ["self", "name"] (defScope s_DuplicateName__init_) := by walk_at "sc"
theorem has_DuplicateName__init_ (T : Txt K C mg) {f : Addr} {fd : FuncData} (F : Fun K "__init__" "DuplicateName.__init__" s_DuplicateName__init_ f fd) (m : ErrC K .DuplicateName f) (b : Binds K fd ["self", "name"] []) (no : PySem.W.findIn K (.ref (xa K .DuplicateName)) "name" = some none) : Y2 P w K mg base := by
  refine ⟨f, fd, "self", "name", T.g_DuplicateName, m, b, ok_I1 (m := "this name stands twice") F sc_DuplicateName__init_ m.T no fun cdv A outer s H E => ?_⟩
  exact pss_cons (ps_expr (pe_baseInit T.bX rfl T.g_Base rfl (pa_cons (pe_var (i := 0) rfl (by first | exact Or.inl rfl | exact Or.inr (Or.inl rfl))) (pa_cons pe_str pa_nil)))) (pss_one (ps_ost (pe_var (i := 0) rfl (by first | exact Or.inl rfl | exact Or.inr (Or.inl rfl))) (pe_var (i := 1) rfl (by first | exact Or.inl rfl | exact Or.inr (Or.inl rfl)))))
theorem hasX_DuplicateName__init_ (T : Txt K C mg) {f : Addr} {fd : FuncData} (F : Fun K "__init__" "DuplicateName.__init__" s_DuplicateName__init_ f fd) (m : ErrC K .DuplicateName f) (b : Binds K fd ["self", "name"] []) (kb : KBd K fd ["self", "name"] 1 ["name"] (up1 [0])) (no : PySem.W.findIn K (.ref (xa K .DuplicateName)) "name" = some none) : HasEk P w K mg base .DuplicateName "name" "name" := by
  refine ⟨f, fd, "self", "name", T.g_DuplicateName, m, b, kb, ok_I1 (m := "this name stands twice") F sc_DuplicateName__init_ m.T no fun cdv A outer s H E => ?_⟩
  exact pss_cons (ps_expr (pe_baseInit T.bX rfl T.g_Base rfl (pa_cons (pe_var (i := 0) rfl (by first | exact Or.inl rfl | exact Or.inr (Or.inl rfl))) (pa_cons pe_str pa_nil)))) (pss_one (ps_ost (pe_var (i := 0) rfl (by first | exact Or.inl rfl | exact Or.inr (Or.inl rfl))) (pe_var (i := 1) rfl (by first | exact Or.inl rfl | exact Or.inr (Or.inl rfl)))))
theorem sc_UnknownName__init_ : FnScope ["self", "name"] ["self", "name"] (defScope s_UnknownName__init_) := by walk_at "sc"
theorem has_UnknownName__init_ (T : Txt K C mg) {f : Addr} {fd : FuncData} (F : Fun K "__init__" "UnknownName.__init__" s_UnknownName__init_ f fd) (m : ErrC K .UnknownName f) (b : Binds K fd ["self", "name"] []) (no : PySem.W.findIn K (.ref (xa K .UnknownName)) "name" = some none) : Y3 P w K mg base := by
  refine ⟨f, fd, "self", "name", T.g_UnknownName, m, b, ok_I1 (m := "nothing has this name") F sc_UnknownName__init_ m.T no fun cdv A outer s H E => ?_⟩
  exact pss_cons (ps_expr (pe_baseInit T.bX rfl T.g_Base rfl (pa_cons (pe_var (i := 0) rfl (by first | exact Or.inl rfl | exact Or.inr (Or.inl rfl))) (pa_cons pe_str pa_nil)))) (pss_one (ps_ost (pe_var (i := 0) rfl (by first | exact Or.inl rfl | exact Or.inr (Or.inl rfl))) (pe_var (i := 1) rfl (by first | exact Or.inl rfl | exact Or.inr (Or.inl rfl)))))
theorem hasX_UnknownName__init_ (T : Txt K C mg) {f : Addr} {fd : FuncData} (F : Fun K "__init__" "UnknownName.__init__" s_UnknownName__init_ f fd) (m : ErrC K .UnknownName f) (b : Binds K fd ["self", "name"] []) (kb : KBd K fd ["self", "name"] 1 ["name"] (up1 [0])) (no : PySem.W.findIn K (.ref (xa K .UnknownName)) "name" = some none) : HasEk P w K mg base .UnknownName "name" "name" := by
  refine ⟨f, fd, "self", "name", T.g_UnknownName, m, b, kb, ok_I1 (m := "nothing has this name") F sc_UnknownName__init_ m.T no fun cdv A outer s H E => ?_⟩
  exact pss_cons (ps_expr (pe_baseInit T.bX rfl T.g_Base rfl (pa_cons (pe_var (i := 0) rfl (by first | exact Or.inl rfl | exact Or.inr (Or.inl rfl))) (pa_cons pe_str pa_nil)))) (pss_one (ps_ost (pe_var (i := 0) rfl (by first | exact Or.inl rfl | exact Or.inr (Or.inl rfl))) (pe_var (i := 1) rfl (by first | exact Or.inl rfl | exact Or.inr (Or.inl rfl)))))
theorem sc_BadCount__init_ : FnScope ["self", "count"] ["self", "count"] (defScope s_BadCount__init_) := by walk_at "sc"
theorem has_BadCount__init_ (T : Txt K C mg) {f : Addr} {fd : FuncData} (F : Fun K "__init__" "BadCount.__init__" s_BadCount__init_ f fd) (m : ErrC K .BadCount f) (b : Binds K fd ["self", "count"] []) (no : PySem.W.findIn K (.ref (xa K .BadCount)) "count" = some none) : Y4 P w K mg base := by
  refine ⟨f, fd, "self", "count", T.g_BadCount, m, b, ok_I1 (m := "this number of items is not allowed") F sc_BadCount__init_ m.T no fun cdv A outer s H E => ?_⟩
  exact pss_cons (ps_expr (pe_baseInit T.bX rfl T.g_Base rfl (pa_cons (pe_var (i := 0) rfl (by first | exact Or.inl rfl | exact Or.inr (Or.inl rfl))) (pa_cons pe_str pa_nil)))) (pss_one (ps_ost (pe_var (i := 0) rfl (by first | exact Or.inl rfl | exact Or.inr (Or.inl rfl))) (pe_var (i := 1) rfl (by first | exact Or.inl rfl | exact Or.inr (Or.inl rfl)))))
theorem hasX_BadCount__init_ (T : Txt K C mg) {f : Addr} {fd : FuncData} (F : Fun K "__init__" "BadCount.__init__" s_BadCount__init_ f fd) (m : ErrC K .BadCount f) (b : Binds K fd ["self", "count"] []) (kb : KBd K fd ["self", "count"] 1 ["count"] (up1 [0])) (no : PySem.W.findIn K (.ref (xa K .BadCount)) "count" = some none) : HasEk P w K mg base .BadCount "count" "count" := by
  refine ⟨f, fd, "self", "count", T.g_BadCount, m, b, kb, ok_I1 (m := "this number of items is not allowed") F sc_BadCount__init_ m.T no fun cdv A outer s H E => ?_⟩
  exact pss_cons (ps_expr (pe_baseInit T.bX rfl T.g_Base rfl (pa_cons (pe_var (i := 0) rfl (by first | exact Or.inl rfl | exact Or.inr (Or.inl rfl))) (pa_cons pe_str pa_nil)))) (pss_one (ps_ost (pe_var (i := 0) rfl (by first | exact Or.inl rfl | exact Or.inr (Or.inl rfl))) (pe_var (i := 1) rfl (by first | exact Or.inl rfl | exact Or.inr (Or.inl rfl)))))
theorem sc_BadText__init_ : FnScope ["self", "text"] ["self", "text"] (defScope s_BadText__init_) := by walk_at "sc"
theorem has_BadText__init_ (T : Txt K C mg) {f : Addr} {fd : FuncData} (F : Fun K "__init__" "BadText.__init__" s_BadText__init_ f fd) (m : ErrC K .BadText f) (b : Binds K fd ["self", "text"] []) (no : PySem.W.findIn K (.ref (xa K .BadText)) "text" = some none) : Y5 P w K mg base := by
  refine ⟨f, fd, "self", "text", T.g_BadText, m, b, ok_I1 (m := "this text is not of the right form") F sc_BadText__init_ m.T no fun cdv A outer s H E => ?_⟩
  exact pss_cons (ps_expr (pe_baseInit T.bX rfl T.g_Base rfl (pa_cons (pe_var (i := 0) rfl (by first | exact Or.inl rfl | exact Or.inr (Or.inl rfl))) (pa_cons pe_str pa_nil)))) (pss_one (ps_ost (pe_var (i := 0) rfl (by first | exact Or.inl rfl | exact Or.inr (Or.inl rfl))) (pe_var (i := 1) rfl (by first | exact Or.inl rfl | exact Or.inr (Or.inl rfl)))))
theorem hasX_BadText__init_ (T : Txt K C mg) {f : Addr} {fd : FuncData} (F : Fun K "__init__" "BadText.__init__" s_BadText__init_ f fd) (m : ErrC K .BadText f) (b : Binds K fd ["self", "text"] []) (kb : KBd K fd ["self", "text"] 1 ["text"] (up1 [0])) (no : PySem.W.findIn K (.ref (xa K .BadText)) "text" = some none) : HasEk P w K mg base .BadText "text" "text" := by
  refine ⟨f, fd, "self", "text", T.g_BadText, m, b, kb, ok_I1 (m := "this text is not of the right form") F sc_BadText__init_ m.T no fun cdv A outer s H E => ?_⟩
  exact pss_cons (ps_expr (pe_baseInit T.bX rfl T.g_Base rfl (pa_cons (pe_var (i := 0) rfl (by first | exact Or.inl rfl | exact Or.inr (Or.inl rfl))) (pa_cons pe_str pa_nil)))) (pss_one (ps_ost (pe_var (i := 0) rfl (by first | exact Or.inl rfl | exact Or.inr (Or.inl rfl))) (pe_var (i := 1) rfl (by first | exact Or.inl rfl | exact Or.inr (Or.inl rfl)))))
theorem sc_BadSet__init_ : FnScope ["self", "value"] ["self", "value"] (defScope s_BadSet__init_) := by walk_at "sc"
theorem has_BadSet__init_ (T : Txt K C mg) {f : Addr} {fd : FuncData} (F : Fun K "__init__" "BadSet.__init__" s_BadSet__init_ f fd) (m : ErrC K .BadSet f) (b : Binds K fd ["self", "value"] []) (no : PySem.W.findIn K (.ref (xa K .BadSet)) "value" = some none) : Y6 P w K mg base := by
  refine ⟨f, fd, "self", "value", T.g_BadSet, m, b, ok_I1 (m := "this is not a set of the outcomes") F sc_BadSet__init_ m.T no fun cdv A outer s H E => ?_⟩
  exact pss_cons (ps_expr (pe_baseInit T.bX rfl T.g_Base rfl (pa_cons (pe_var (i := 0) rfl (by first | exact Or.inl rfl | exact Or.inr (Or.inl rfl))) (pa_cons pe_str pa_nil)))) (pss_one (ps_ost (pe_var (i := 0) rfl (by first | exact Or.inl rfl | exact Or.inr (Or.inl rfl))) (pe_var (i := 1) rfl (by first | exact Or.inl rfl | exact Or.inr (Or.inl rfl)))))
theorem hasX_BadSet__init_ (T : Txt K C mg) {f : Addr} {fd : FuncData} (F : Fun K "__init__" "BadSet.__init__" s_BadSet__init_ f fd) (m : ErrC K .BadSet f) (b : Binds K fd ["self", "value"] []) (kb : KBd K fd ["self", "value"] 1 ["value"] (up1 [0])) (no : PySem.W.findIn K (.ref (xa K .BadSet)) "value" = some none) : HasEk P w K mg base .BadSet "value" "value" := by
  refine ⟨f, fd, "self", "value", T.g_BadSet, m, b, kb, ok_I1 (m := "this is not a set of the outcomes") F sc_BadSet__init_ m.T no fun cdv A outer s H E => ?_⟩
  exact pss_cons (ps_expr (pe_baseInit T.bX rfl T.g_Base rfl (pa_cons (pe_var (i := 0) rfl (by first | exact Or.inl rfl | exact Or.inr (Or.inl rfl))) (pa_cons pe_str pa_nil)))) (pss_one (ps_ost (pe_var (i := 0) rfl (by first | exact Or.inl rfl | exact Or.inr (Or.inl rfl))) (pe_var (i := 1) rfl (by first | exact Or.inl rfl | exact Or.inr (Or.inl rfl)))))
theorem sc_BadCell__init_ : FnScope ["self", "value"] ["self", "value"] (defScope s_BadCell__init_) := by walk_at "sc"
theorem has_BadCell__init_ (T : Txt K C mg) {f : Addr} {fd : FuncData} (F : Fun K "__init__" "BadCell.__init__" s_BadCell__init_ f fd) (m : ErrC K .BadCell f) (b : Binds K fd ["self", "value"] []) (no : PySem.W.findIn K (.ref (xa K .BadCell)) "value" = some none) : Y7 P w K mg base := by
  refine ⟨f, fd, "self", "value", T.g_BadCell, m, b, ok_I1 (m := "this is not a cell of the table") F sc_BadCell__init_ m.T no fun cdv A outer s H E => ?_⟩
  exact pss_cons (ps_expr (pe_baseInit T.bX rfl T.g_Base rfl (pa_cons (pe_var (i := 0) rfl (by first | exact Or.inl rfl | exact Or.inr (Or.inl rfl))) (pa_cons pe_str pa_nil)))) (pss_one (ps_ost (pe_var (i := 0) rfl (by first | exact Or.inl rfl | exact Or.inr (Or.inl rfl))) (pe_var (i := 1) rfl (by first | exact Or.inl rfl | exact Or.inr (Or.inl rfl)))))
theorem hasX_BadCell__init_ (T : Txt K C mg) {f : Addr} {fd : FuncData} (F : Fun K "__init__" "BadCell.__init__" s_BadCell__init_ f fd) (m : ErrC K .BadCell f) (b : Binds K fd ["self", "value"] []) (kb : KBd K fd ["self", "value"] 1 ["value"] (up1 [0])) (no : PySem.W.findIn K (.ref (xa K .BadCell)) "value" = some none) : HasEk P w K mg base .BadCell "value" "value" := by
  refine ⟨f, fd, "self", "value", T.g_BadCell, m, b, kb, ok_I1 (m := "this is not a cell of the table") F sc_BadCell__init_ m.T no fun cdv A outer s H E => ?_⟩
  exact pss_cons (ps_expr (pe_baseInit T.bX rfl T.g_Base rfl (pa_cons (pe_var (i := 0) rfl (by first | exact Or.inl rfl | exact Or.inr (Or.inl rfl))) (pa_cons pe_str pa_nil)))) (pss_one (ps_ost (pe_var (i := 0) rfl (by first | exact Or.inl rfl | exact Or.inr (Or.inl rfl))) (pe_var (i := 1) rfl (by first | exact Or.inl rfl | exact Or.inr (Or.inl rfl)))))
theorem sc_BadSide__init_ : FnScope ["self", "word"] ["self", "word"] (defScope s_BadSide__init_) := by walk_at "sc"
theorem has_BadSide__init_ (T : Txt K C mg) {f : Addr} {fd : FuncData} (F : Fun K "__init__" "BadSide.__init__" s_BadSide__init_ f fd) (m : ErrC K .BadSide f) (b : Binds K fd ["self", "word"] []) (no : PySem.W.findIn K (.ref (xa K .BadSide)) "word" = some none) : Y8 P w K mg base := by
  refine ⟨f, fd, "self", "word", T.g_BadSide, m, b, ok_I1 (m := "there is no such side") F sc_BadSide__init_ m.T no fun cdv A outer s H E => ?_⟩
  exact pss_cons (ps_expr (pe_baseInit T.bX rfl T.g_Base rfl (pa_cons (pe_var (i := 0) rfl (by first | exact Or.inl rfl | exact Or.inr (Or.inl rfl))) (pa_cons pe_str pa_nil)))) (pss_one (ps_ost (pe_var (i := 0) rfl (by first | exact Or.inl rfl | exact Or.inr (Or.inl rfl))) (pe_var (i := 1) rfl (by first | exact Or.inl rfl | exact Or.inr (Or.inl rfl)))))
theorem hasX_BadSide__init_ (T : Txt K C mg) {f : Addr} {fd : FuncData} (F : Fun K "__init__" "BadSide.__init__" s_BadSide__init_ f fd) (m : ErrC K .BadSide f) (b : Binds K fd ["self", "word"] []) (kb : KBd K fd ["self", "word"] 1 ["word"] (up1 [0])) (no : PySem.W.findIn K (.ref (xa K .BadSide)) "word" = some none) : HasEk P w K mg base .BadSide "word" "word" := by
  refine ⟨f, fd, "self", "word", T.g_BadSide, m, b, kb, ok_I1 (m := "there is no such side") F sc_BadSide__init_ m.T no fun cdv A outer s H E => ?_⟩
  exact pss_cons (ps_expr (pe_baseInit T.bX rfl T.g_Base rfl (pa_cons (pe_var (i := 0) rfl (by first | exact Or.inl rfl | exact Or.inr (Or.inl rfl))) (pa_cons pe_str pa_nil)))) (pss_one (ps_ost (pe_var (i := 0) rfl (by first | exact Or.inl rfl | exact Or.inr (Or.inl rfl))) (pe_var (i := 1) rfl (by first | exact Or.inl rfl | exact Or.inr (Or.inl rfl)))))
theorem sc_BadLine__init_ : FnScope ["self", "number"] ["self", "number"] (defScope s_BadLine__init_) := by walk_at "sc"
theorem has_BadLine__init_ (T : Txt K C mg) {f : Addr} {fd : FuncData} (F : Fun K "__init__" "BadLine.__init__" s_BadLine__init_ f fd) (m : ErrC K .BadLine f) (b : Binds K fd ["self", "number"] []) (no : PySem.W.findIn K (.ref (xa K .BadLine)) "number" = some none) : Y9 P w K mg base := by
  refine ⟨f, fd, "self", "number", T.g_BadLine, m, b, ok_I1 (m := "the side has no such line") F sc_BadLine__init_ m.T no fun cdv A outer s H E => ?_⟩
  exact pss_cons (ps_expr (pe_baseInit T.bX rfl T.g_Base rfl (pa_cons (pe_var (i := 0) rfl (by first | exact Or.inl rfl | exact Or.inr (Or.inl rfl))) (pa_cons pe_str pa_nil)))) (pss_one (ps_ost (pe_var (i := 0) rfl (by first | exact Or.inl rfl | exact Or.inr (Or.inl rfl))) (pe_var (i := 1) rfl (by first | exact Or.inl rfl | exact Or.inr (Or.inl rfl)))))
theorem hasX_BadLine__init_ (T : Txt K C mg) {f : Addr} {fd : FuncData} (F : Fun K "__init__" "BadLine.__init__" s_BadLine__init_ f fd) (m : ErrC K .BadLine f) (b : Binds K fd ["self", "number"] []) (kb : KBd K fd ["self", "number"] 1 ["number"] (up1 [0])) (no : PySem.W.findIn K (.ref (xa K .BadLine)) "number" = some none) : HasEk P w K mg base .BadLine "number" "number" := by
  refine ⟨f, fd, "self", "number", T.g_BadLine, m, b, kb, ok_I1 (m := "the side has no such line") F sc_BadLine__init_ m.T no fun cdv A outer s H E => ?_⟩
  exact pss_cons (ps_expr (pe_baseInit T.bX rfl T.g_Base rfl (pa_cons (pe_var (i := 0) rfl (by first | exact Or.inl rfl | exact Or.inr (Or.inl rfl))) (pa_cons pe_str pa_nil)))) (pss_one (ps_ost (pe_var (i := 0) rfl (by first | exact Or.inl rfl | exact Or.inr (Or.inl rfl))) (pe_var (i := 1) rfl (by first | exact Or.inl rfl | exact Or.inr (Or.inl rfl)))))
theorem sc_BadWish__init_ : FnScope ["self", "value"] ["self", "value"] (defScope s_BadWish__init_) := by walk_at "sc"
theorem has_BadWish__init_ (T : Txt K C mg) {f : Addr} {fd : FuncData} (F : Fun K "__init__" "BadWish.__init__" s_BadWish__init_ f fd) (m : ErrC K .BadWish f) (b : Binds K fd ["self", "value"] []) (no : PySem.W.findIn K (.ref (xa K .BadWish)) "value" = some none) : Y10 P w K mg base := by
  refine ⟨f, fd, "self", "value", T.g_BadWish, m, b, ok_I1 (m := "this amount is not an integer") F sc_BadWish__init_ m.T no fun cdv A outer s H E => ?_⟩
  exact pss_cons (ps_expr (pe_baseInit T.bX rfl T.g_Base rfl (pa_cons (pe_var (i := 0) rfl (by first | exact Or.inl rfl | exact Or.inr (Or.inl rfl))) (pa_cons pe_str pa_nil)))) (pss_one (ps_ost (pe_var (i := 0) rfl (by first | exact Or.inl rfl | exact Or.inr (Or.inl rfl))) (pe_var (i := 1) rfl (by first | exact Or.inl rfl | exact Or.inr (Or.inl rfl)))))
theorem hasX_BadWish__init_ (T : Txt K C mg) {f : Addr} {fd : FuncData} (F : Fun K "__init__" "BadWish.__init__" s_BadWish__init_ f fd) (m : ErrC K .BadWish f) (b : Binds K fd ["self", "value"] []) (kb : KBd K fd ["self", "value"] 1 ["value"] (up1 [0])) (no : PySem.W.findIn K (.ref (xa K .BadWish)) "value" = some none) : HasEk P w K mg base .BadWish "value" "value" := by
  refine ⟨f, fd, "self", "value", T.g_BadWish, m, b, kb, ok_I1 (m := "this amount is not an integer") F sc_BadWish__init_ m.T no fun cdv A outer s H E => ?_⟩
  exact pss_cons (ps_expr (pe_baseInit T.bX rfl T.g_Base rfl (pa_cons (pe_var (i := 0) rfl (by first | exact Or.inl rfl | exact Or.inr (Or.inl rfl))) (pa_cons pe_str pa_nil)))) (pss_one (ps_ost (pe_var (i := 0) rfl (by first | exact Or.inl rfl | exact Or.inr (Or.inl rfl))) (pe_var (i := 1) rfl (by first | exact Or.inl rfl | exact Or.inr (Or.inl rfl)))))
theorem sc_UnlikeOutcomes__init_ : FnScope ["self", "names"] ["self", "names"] (defScope s_UnlikeOutcomes__init_) := by walk_at "sc"
theorem has_UnlikeOutcomes__init_ (T : Txt K C mg) {f : Addr} {fd : FuncData} (F : Fun K "__init__" "UnlikeOutcomes.__init__" s_UnlikeOutcomes__init_ f fd) (m : ErrC K .UnlikeOutcomes f) (b : Binds K fd ["self", "names"] []) (no : PySem.W.findIn K (.ref (xa K .UnlikeOutcomes)) "names" = some none) : Y11 P w K mg base := by
  refine ⟨f, fd, "self", "names", T.g_UnlikeOutcomes, m, b, ok_I1 (m := "these are other outcomes") F sc_UnlikeOutcomes__init_ m.T no fun cdv A outer s H E => ?_⟩
  exact pss_cons (ps_expr (pe_baseInit T.bX rfl T.g_Base rfl (pa_cons (pe_var (i := 0) rfl (by first | exact Or.inl rfl | exact Or.inr (Or.inl rfl))) (pa_cons pe_str pa_nil)))) (pss_one (ps_ost (pe_var (i := 0) rfl (by first | exact Or.inl rfl | exact Or.inr (Or.inl rfl))) (pe_var (i := 1) rfl (by first | exact Or.inl rfl | exact Or.inr (Or.inl rfl)))))
theorem hasX_UnlikeOutcomes__init_ (T : Txt K C mg) {f : Addr} {fd : FuncData} (F : Fun K "__init__" "UnlikeOutcomes.__init__" s_UnlikeOutcomes__init_ f fd) (m : ErrC K .UnlikeOutcomes f) (b : Binds K fd ["self", "names"] []) (kb : KBd K fd ["self", "names"] 1 ["names"] (up1 [0])) (no : PySem.W.findIn K (.ref (xa K .UnlikeOutcomes)) "names" = some none) : HasEk P w K mg base .UnlikeOutcomes "names" "names" := by
  refine ⟨f, fd, "self", "names", T.g_UnlikeOutcomes, m, b, kb, ok_I1 (m := "these are other outcomes") F sc_UnlikeOutcomes__init_ m.T no fun cdv A outer s H E => ?_⟩
  exact pss_cons (ps_expr (pe_baseInit T.bX rfl T.g_Base rfl (pa_cons (pe_var (i := 0) rfl (by first | exact Or.inl rfl | exact Or.inr (Or.inl rfl))) (pa_cons pe_str pa_nil)))) (pss_one (ps_ost (pe_var (i := 0) rfl (by first | exact Or.inl rfl | exact Or.inr (Or.inl rfl))) (pe_var (i := 1) rfl (by first | exact Or.inl rfl | exact Or.inr (Or.inl rfl)))))
theorem sc_NotFirm__init_ : FnScope ["self", "value"] ["self", "value"] (defScope s_NotFirm__init_) := by walk_at "sc"
theorem has_NotFirm__init_ (T : Txt K C mg) {f : Addr} {fd : FuncData} (F : Fun K "__init__" "NotFirm.__init__" s_NotFirm__init_ f fd) (m : ErrC K .NotFirm f) (b : Binds K fd ["self", "value"] []) (no : PySem.W.findIn K (.ref (xa K .NotFirm)) "value" = some none) : Y12 P w K mg base := by
  refine ⟨f, fd, "self", "value", T.g_NotFirm, m, b, ok_I1 (m := "the table is not firm") F sc_NotFirm__init_ m.T no fun cdv A outer s H E => ?_⟩
  exact pss_cons (ps_expr (pe_baseInit T.bX rfl T.g_Base rfl (pa_cons (pe_var (i := 0) rfl (by first | exact Or.inl rfl | exact Or.inr (Or.inl rfl))) (pa_cons pe_str pa_nil)))) (pss_one (ps_ost (pe_var (i := 0) rfl (by first | exact Or.inl rfl | exact Or.inr (Or.inl rfl))) (pe_var (i := 1) rfl (by first | exact Or.inl rfl | exact Or.inr (Or.inl rfl)))))
theorem hasX_NotFirm__init_ (T : Txt K C mg) {f : Addr} {fd : FuncData} (F : Fun K "__init__" "NotFirm.__init__" s_NotFirm__init_ f fd) (m : ErrC K .NotFirm f) (b : Binds K fd ["self", "value"] []) (kb : KBd K fd ["self", "value"] 1 ["value"] (up1 [0])) (no : PySem.W.findIn K (.ref (xa K .NotFirm)) "value" = some none) : HasEk P w K mg base .NotFirm "value" "value" := by
  refine ⟨f, fd, "self", "value", T.g_NotFirm, m, b, kb, ok_I1 (m := "the table is not firm") F sc_NotFirm__init_ m.T no fun cdv A outer s H E => ?_⟩
  exact pss_cons (ps_expr (pe_baseInit T.bX rfl T.g_Base rfl (pa_cons (pe_var (i := 0) rfl (by first | exact Or.inl rfl | exact Or.inr (Or.inl rfl))) (pa_cons pe_str pa_nil)))) (pss_one (ps_ost (pe_var (i := 0) rfl (by first | exact Or.inl rfl | exact Or.inr (Or.inl rfl))) (pe_var (i := 1) rfl (by first | exact Or.inl rfl | exact Or.inr (Or.inl rfl)))))
theorem sc_IsFirm__init_ : FnScope ["self"] ["self"] (defScope s_IsFirm__init_) := by walk_at "sc"
theorem has_IsFirm__init_ (T : Txt K C mg) {f : Addr} {fd : FuncData} (F : Fun K "__init__" "IsFirm.__init__" s_IsFirm__init_ f fd) (m : ErrC K .IsFirm f) (b : Binds K fd ["self"] []) : Y13 P w K mg base := by
  refine ⟨f, fd, "self", T.g_IsFirm, m, b, ok_I0 (m := "the table is firm") F sc_IsFirm__init_ m.T fun cdv A outer s H E => ?_⟩
  exact pss_one (ps_expr (pe_baseInit T.bX rfl T.g_Base rfl (pa_cons (pe_var (i := 0) rfl (by first | exact Or.inl rfl | exact Or.inr (Or.inl rfl))) (pa_cons pe_str pa_nil))))
theorem sc_IsSmooth__init_ : FnScope ["self"] ["self"] (defScope s_IsSmooth__init_) := by walk_at "sc"
theorem has_IsSmooth__init_ (T : Txt K C mg) {f : Addr} {fd : FuncData} (F : Fun K "__init__" "IsSmooth.__init__" s_IsSmooth__init_ f fd) (m : ErrC K .IsSmooth f) (b : Binds K fd ["self"] []) : Y14 P w K mg base := by
  refine ⟨f, fd, "self", T.g_IsSmooth, m, b, ok_I0 (m := "the table is smooth") F sc_IsSmooth__init_ m.T fun cdv A outer s H E => ?_⟩
  exact pss_one (ps_expr (pe_baseInit T.bX rfl T.g_Base rfl (pa_cons (pe_var (i := 0) rfl (by first | exact Or.inl rfl | exact Or.inr (Or.inl rfl))) (pa_cons pe_str pa_nil))))
theorem sc_NothingToUndo__init_ : FnScope ["self"] ["self"] (defScope s_NothingToUndo__init_) := by walk_at "sc"
theorem has_NothingToUndo__init_ (T : Txt K C mg) {f : Addr} {fd : FuncData} (F : Fun K "__init__" "NothingToUndo.__init__" s_NothingToUndo__init_ f fd) (m : ErrC K .NothingToUndo f) (b : Binds K fd ["self"] []) : Y15 P w K mg base := by
  refine ⟨f, fd, "self", T.g_NothingToUndo, m, b, ok_I0 (m := "there is no change to take back") F sc_NothingToUndo__init_ m.T fun cdv A outer s H E => ?_⟩
  exact pss_one (ps_expr (pe_baseInit T.bX rfl T.g_Base rfl (pa_cons (pe_var (i := 0) rfl (by first | exact Or.inl rfl | exact Or.inr (Or.inl rfl))) (pa_cons pe_str pa_nil))))
theorem sc_start : FnScope N1 ["_law_script"] (defScope s_start) := by walk_at "sc"
theorem has_start (T : Txt K C mg)  {f : Addr} {fd : FuncData} (F : Fun K "_law_start" "_law_start" s_start f fd) (m : mg "_law_start" = some (.ref f)) (b : Binds K fd ["_law_script"] []) :
    Y16 P w K mg base := by
  refine ⟨f, fd, m, F.kp, b, trivial, FnOk.imp (fun_deep (T := t_start) (k := 0) F sc_start ?_ (fun cdv A outer s H E hr => ?_) rd_startE) start_orc⟩
  · walk_at "lenp"
  · obtain ⟨tk, hp⟩ := tkhp (X := cxOf (L2N.CX P w) P w K mg base N1 "_law_start" (defScope s_start) f cdv A outer s H E) rfl rfl rfl rfl
    exact dss_one (ds_ret (de_lstM (da_cons (de_lc (fz := false) (own := [("_law_cell", 1)]) rfl sc_start.nd (di_any (de_var (pv 0))) (blkOk_by (N := N1) (sc := defScope s_start) (own := [("_law_cell", 1)]) (by decide +kernel)) (ct_name (by decide)) (fun _ _ _ _ _ => pg_name (i := 1) sc_start.nd rfl (by walk_at "or")) (fun _ _ _ _ _ => dts_one (dt_ge (de_abs rfl T.m_abs (de_var (pv 1))) (de_pow (de_int pe_int) (de_int pe_int)))) (fun _ _ _ _ _ => de_abs rfl T.m_abs (de_var (pv 1)))) (da_cons (de_addM (de_list true rfl T.m_list (de_var (pv 0))) (de_lst (da_cons (de_int pe_int) da_nil))) (da_cons (de_int pe_int) da_nil)))))
theorem sc_draw : FnScope N2 ["_law_state", "_law_size"] (defScope s_draw) := by walk_at "sc"
theorem has_draw (T : Txt K C mg)  {f : Addr} {fd : FuncData} (F : Fun K "_law_draw" "_law_draw" s_draw f fd) (m : mg "_law_draw" = some (.ref f)) (b : Binds K fd ["_law_state", "_law_size"] []) :
    Y17 P w K mg base := by
  refine ⟨f, fd, m, F.kp, b, trivial, FnOk.imp (fun_deep (T := t_draw) (k := 0) F sc_draw ?_ (fun cdv A outer s H E hr => ?_) rd_drawE) draw_orc⟩
  · walk_at "lenp"
  · obtain ⟨tk, hp⟩ := tkhp (X := cxOf (L2N.CX P w) P w K mg base N2 "_law_draw" (defScope s_draw) f cdv A outer s H E) rfl rfl rfl rfl
    exact dss_cons (ds_augI (de_var (pv 0)) (de_int pe_int) (de_int pe_int) ip_add)
      (dss_cons (ds_while hp (PW.pt (pw_and' (dt_ne hr.units (de_sub_ (de_var (pv 0)) (de_int pe_int)) (de_lst da_nil)) (pw_and1 (dt_eq hr.units (de_sub_ (de_sub_ (de_var (pv 0)) (de_int pe_int)) (de_int pe_int)) (de_int pe_int))))) (dss_one (ds_asg (de_slice false (de_sub_ (de_var (pv 0)) (de_int pe_int)) (do_some (de_int pe_int)) do_none) (dg_setI (de_var (pv 0)) (de_int pe_int) (pg_sub (de_var (pv 0)) (de_int pe_int) set_list)))))
      (dss_cons (ds_if (dt_ne hr.units (de_sub_ (de_var (pv 0)) (de_int pe_int)) (de_lst da_nil)) (dss_cons (ds_set (i := 2) (de_mod (de_intC rfl T.m_int (de_sub_ (de_sub_ (de_var (pv 0)) (de_int pe_int)) (de_int pe_int))) (de_var (pv 1))) sc_draw.nd)
      (dss_cons (ds_asg (de_fdiv (de_sub_ (de_sub_ (de_var (pv 0)) (de_int pe_int)) (de_int pe_int)) (de_var (pv 1))) (dg_setI (de_sub_ (de_var (pv 0)) (de_int pe_int)) (de_int pe_int) (pg_sub (de_sub_ (de_var (pv 0)) (de_int pe_int)) (de_int pe_int) set_list)))
      (dss_one (ds_ret (de_var (pv 2)))))) (dss_nil))
      (dss_cons (ds_set (i := 3) (de_mod (de_intC rfl T.m_int (de_sub_ (de_sub_ (de_var (pv 0)) (de_int pe_int)) (de_mod (de_intC rfl T.m_int (de_sub_ (de_var (pv 0)) (de_int pe_int))) (de_len rfl T.m_len (de_sub_ (de_var (pv 0)) (de_int pe_int)))))) (de_int pe_int)) sc_draw.nd)
      (dss_cons (ds_set (i := 4) (de_mod (de_intC rfl T.m_int (de_pow (de_add (de_add (de_mul (de_var (pv 3)) (de_int pe_int)) (de_mul (de_sub_ (de_var (pv 0)) (de_int pe_int)) (de_int pe_int))) (de_int pe_int)) (de_int pe_int))) (de_int pe_int)) sc_draw.nd)
      (dss_one (ds_ret (de_mod (de_mod (de_intC rfl T.m_int (de_pow (de_add (de_add (de_mul (de_var (pv 4)) (de_int pe_int)) (de_mul (de_sub_ (de_var (pv 0)) (de_int pe_int)) (de_int pe_int))) (de_int pe_int)) (de_int pe_int))) (de_int pe_int)) (de_var (pv 1)))))))))
theorem sc_l_signs02 : FnScope ["_law_signs_here"] [] (defScope s_l_signs02) := by walk_at "sc"
theorem has_l_signs02 (T : Txt K C mg)  {f : Addr} {fd : FuncData} (F : Fun K "_law_signs" "_law_signs" s_l_signs02 f fd) (m : mg "_law_signs" = some (.ref f)) (b : Binds K fd [] []) :
    Y18 P w K mg base := by
  refine ⟨f, fd, m, F.kp, b, trivial, fun_deep (T := t_l_signs02) (k := 0) F sc_l_signs02 ?_ (fun cdv A outer s H E hr => ?_) rd_l_signs02⟩
  · walk_at "lenp"
  · obtain ⟨tk, hp⟩ := tkhp (X := cxOf (L2N.CX P w) P w K mg base ["_law_signs_here"] "_law_signs" (defScope s_l_signs02) f cdv A outer s H E) rfl rfl rfl rfl
    exact dss_cons (ds_set (i := 0) (de_str pe_str) sc_l_signs02.nd)
      (dss_one (ds_ret (de_add (de_var (pv 0)) (de_str pe_str))))
theorem sc_l_kinds02 : FnScope N3 ["_law_e"] (defScope s_l_kinds02) := by walk_at "sc"
theorem has_l_kinds02 (T : Txt K C mg)  {f : Addr} {fd : FuncData} (F : Fun K "_law_kinds" "_law_kinds" s_l_kinds02 f fd) (m : mg "_law_kinds" = some (.ref f)) (b : Binds K fd ["_law_e"] []) :
    Y19 P w K mg base := by
  refine ⟨f, fd, m, F.kp, b, trivial, fun_deep (T := t_l_kinds02) (k := 0) F sc_l_kinds02 ?_ (fun cdv A outer s H E hr => ?_) rd_l_kinds02⟩
  · walk_at "lenp"
  · obtain ⟨tk, hp⟩ := tkhp (X := cxOf (L2N.CX P w) P w K mg base N3 "_law_kinds" (defScope s_l_kinds02) f cdv A outer s H E) rfl rfl rfl rfl
    exact dss_cons (ds_set (i := 1) (de_lst (da_cons (de_isV (t := .own .BadName) T.isv (by decide) rfl T.m_isinstance (de_var (pv 0)) rfl T.g_BadName rfl) (da_cons (de_isV (t := .own .DuplicateName) T.isv (by decide) rfl T.m_isinstance (de_var (pv 0)) rfl T.g_DuplicateName rfl) (da_cons (de_isV (t := .own .UnknownName) T.isv (by decide) rfl T.m_isinstance (de_var (pv 0)) rfl T.g_UnknownName rfl) da_nil)))) sc_l_kinds02.nd)
      (dss_cons (ds_set (i := 1) (de_add (de_var (pv 1)) (de_lst (da_cons (de_isV (t := .own .BadCount) T.isv (by decide) rfl T.m_isinstance (de_var (pv 0)) rfl T.g_BadCount rfl) (da_cons (de_isV (t := .own .BadText) T.isv (by decide) rfl T.m_isinstance (de_var (pv 0)) rfl T.g_BadText rfl) (da_cons (de_isV (t := .own .BadSet) T.isv (by decide) rfl T.m_isinstance (de_var (pv 0)) rfl T.g_BadSet rfl) da_nil))))) sc_l_kinds02.nd)
      (dss_cons (ds_set (i := 1) (de_add (de_var (pv 1)) (de_lst (da_cons (de_isV (t := .own .BadCell) T.isv (by decide) rfl T.m_isinstance (de_var (pv 0)) rfl T.g_BadCell rfl) (da_cons (de_isV (t := .own .BadSide) T.isv (by decide) rfl T.m_isinstance (de_var (pv 0)) rfl T.g_BadSide rfl) (da_cons (de_isV (t := .own .BadLine) T.isv (by decide) rfl T.m_isinstance (de_var (pv 0)) rfl T.g_BadLine rfl) da_nil))))) sc_l_kinds02.nd)
      (dss_cons (ds_set (i := 1) (de_add (de_var (pv 1)) (de_lst (da_cons (de_isV (t := .own .BadWish) T.isv (by decide) rfl T.m_isinstance (de_var (pv 0)) rfl T.g_BadWish rfl) (da_cons (de_isV (t := .own .UnlikeOutcomes) T.isv (by decide) rfl T.m_isinstance (de_var (pv 0)) rfl T.g_UnlikeOutcomes rfl) (da_cons (de_isV (t := .own .NotFirm) T.isv (by decide) rfl T.m_isinstance (de_var (pv 0)) rfl T.g_NotFirm rfl) da_nil))))) sc_l_kinds02.nd)
      (dss_one (ds_ret (de_add (de_var (pv 1)) (de_lst (da_cons (de_isV (t := .own .IsFirm) T.isv (by decide) rfl T.m_isinstance (de_var (pv 0)) rfl T.g_IsFirm rfl) (da_cons (de_isV (t := .own .IsSmooth) T.isv (by decide) rfl T.m_isinstance (de_var (pv 0)) rfl T.g_IsSmooth rfl) (da_cons (de_isV (t := .own .NothingToUndo) T.isv (by decide) rfl T.m_isinstance (de_var (pv 0)) rfl T.g_NothingToUndo rfl) da_nil))))))))))
theorem sc_l_thing02 : FnScope N4 ["_law_state"] (defScope s_l_thing02) := by walk_at "sc"
theorem has_l_thing02 (T : Txt K C mg) (h_draw : Y17 P w K mg base) (h_l_signs02 : Y18 P w K mg base) {f : Addr} {fd : FuncData} (F : Fun K "_law_thing" "_law_thing" s_l_thing02 f fd) (m : mg "_law_thing" = some (.ref f)) (b : Binds K fd ["_law_state"] []) :
    Y20 P w K mg base := by
  refine ⟨f, fd, m, F.kp, b, trivial, fun_deep (T := t_l_thing02) (k := 1) F sc_l_thing02 ?_ (fun cdv A outer s H E hr => ?_) rd_l_thing02⟩
  · walk_at "lenp"
  · obtain ⟨tk, hp⟩ := tkhp (X := cxOf (L2N.CX P w) P w K mg base N4 "_law_thing" (defScope s_l_thing02) f cdv A outer s H E) rfl rfl rfl rfl
    exact dss_cons (ds_set (i := 1) (de_sub (de_fnH h_draw (hr.mono (by decide)) rfl tk (da_cons (de_var (pv 0)) (da_cons (de_int pe_int) da_nil))) (de_int pe_int)) sc_l_thing02.nd)
      (dss_cons (ds_set (i := 2) (de_c0H h_l_signs02 (hr.mono (by decide)) rfl tk) sc_l_thing02.nd)
      (dss_cons (ds_set (i := 3) (de_join (de_str pe_str) (de_lc (fz := true) (own := [("_law_k", 4)]) rfl sc_l_thing02.nd (di_range1 rfl T.m_range (de_fnH h_draw (hr.mono (by decide)) rfl tk (da_cons (de_var (pv 0)) (da_cons (de_int pe_int) da_nil)))) (blkOk_by (N := N4) (sc := defScope s_l_thing02) (own := [("_law_k", 4)]) (by decide +kernel)) (ct_name (by decide)) (fun _ _ _ _ _ => pg_name (i := 4) sc_l_thing02.nd rfl (by walk_at "or")) (fun _ _ _ _ _ => dts_nil) (fun _ _ _ _ _ => de_sub_ (de_var (pv 2)) (de_fnH h_draw (hr.mono (by decide)) rfl takes0N (da_cons (de_var (pv 0)) (da_cons (de_len rfl T.m_len (de_var (pv 2))) da_nil)))))) sc_l_thing02.nd)
      (dss_one (ds_ret (de_sub_ (de_lst (da_cons (de_var (pv 3)) (da_cons (de_var (pv 1)) (da_cons (de_non pe_non) (da_cons (de_tup (da_cons (de_var (pv 3)) (da_cons (de_var (pv 1)) da_nil))) (da_cons (de_sub (de_neg (de_pow (de_int pe_int) (de_int pe_int))) (de_var (pv 1))) (da_cons (de_str pe_str) (da_cons (de_int pe_int) (da_cons (de_bl pe_bl) (da_cons (de_dict true (.cons (de_var (pv 3)) (de_int pe_int) (.nil))) da_nil)))))))))) (de_fnH h_draw (hr.mono (by decide)) rfl tk (da_cons (de_var (pv 0)) (da_cons (de_int pe_int) da_nil))))))))
theorem sc_l_all02 : FnScope ["_law_t", "_law_made"] ["_law_t"] (defScope s_l_all02) := by walk_at "sc"
theorem has_l_all02 (T : Txt K C mg) (h_BadCell__init_ : Y7 P w K mg base) (h_BadCount__init_ : Y4 P w K mg base) (h_BadLine__init_ : Y9 P w K mg base) (h_BadName__init_ : Y1 P w K mg base) (h_BadSet__init_ : Y6 P w K mg base) (h_BadSide__init_ : Y8 P w K mg base) (h_BadText__init_ : Y5 P w K mg base) (h_BadWish__init_ : Y10 P w K mg base) (h_DuplicateName__init_ : Y2 P w K mg base) (h_IsFirm__init_ : Y13 P w K mg base) (h_IsSmooth__init_ : Y14 P w K mg base) (h_NotFirm__init_ : Y12 P w K mg base) (h_NothingToUndo__init_ : Y15 P w K mg base) (h_UnknownName__init_ : Y3 P w K mg base) (h_UnlikeOutcomes__init_ : Y11 P w K mg base) {f : Addr} {fd : FuncData} (F : Fun K "_law_all" "_law_all" s_l_all02 f fd) (m : mg "_law_all" = some (.ref f)) (b : Binds K fd ["_law_t"] []) :
    Y21 P w K mg base := by
  refine ⟨f, fd, m, F.kp, b, trivial, fun_deep (T := t_l_all02) (k := 2) F sc_l_all02 ?_ (fun cdv A outer s H E hr => ?_) rd_l_all02⟩
  · walk_at "lenp"
  · obtain ⟨tk, hp⟩ := tkhp (X := cxOf (L2N.CX P w) P w K mg base ["_law_t", "_law_made"] "_law_all" (defScope s_l_all02) f cdv A outer s H E) rfl rfl rfl rfl
    exact dss_cons (ds_set (i := 1) (de_lst (da_cons (de_mkX h_BadName__init_ (hr.mono (by decide)) rfl (de_sub_ (de_var (pv 0)) (de_int pe_int))) (da_cons (de_mkX h_DuplicateName__init_ (hr.mono (by decide)) rfl (de_sub_ (de_var (pv 0)) (de_int pe_int))) (da_cons (de_mkX h_UnknownName__init_ (hr.mono (by decide)) rfl (de_sub_ (de_var (pv 0)) (de_int pe_int))) (da_cons (de_mkX h_BadCount__init_ (hr.mono (by decide)) rfl (de_sub_ (de_var (pv 0)) (de_int pe_int))) (da_cons (de_mkX h_BadText__init_ (hr.mono (by decide)) rfl (de_sub_ (de_var (pv 0)) (de_int pe_int))) (da_cons (de_mkX h_BadSet__init_ (hr.mono (by decide)) rfl (de_sub_ (de_var (pv 0)) (de_int pe_int))) da_nil))))))) sc_l_all02.nd)
      (dss_cons (ds_set (i := 1) (de_add (de_var (pv 1)) (de_lst (da_cons (de_mkX h_BadCell__init_ (hr.mono (by decide)) rfl (de_sub_ (de_var (pv 0)) (de_int pe_int))) (da_cons (de_mkX h_BadSide__init_ (hr.mono (by decide)) rfl (de_sub_ (de_var (pv 0)) (de_int pe_int))) (da_cons (de_mkX h_BadLine__init_ (hr.mono (by decide)) rfl (de_sub_ (de_var (pv 0)) (de_int pe_int))) (da_cons (de_mkX h_BadWish__init_ (hr.mono (by decide)) rfl (de_sub_ (de_var (pv 0)) (de_int pe_int))) (da_cons (de_mkX h_UnlikeOutcomes__init_ (hr.mono (by decide)) rfl (de_sub_ (de_var (pv 0)) (de_int pe_int))) da_nil))))))) sc_l_all02.nd)
      (dss_one (ds_ret (de_add (de_var (pv 1)) (de_lst (da_cons (de_mkX h_NotFirm__init_ (hr.mono (by decide)) rfl (de_sub_ (de_var (pv 0)) (de_int pe_int))) (da_cons (de_mkX0 h_IsFirm__init_ (hr.mono (by decide)) rfl) (da_cons (de_mkX0 h_IsSmooth__init_ (hr.mono (by decide)) rfl) (da_cons (de_mkX0 h_NothingToUndo__init_ (hr.mono (by decide)) rfl) da_nil)))))))))
theorem sc_l_named02 : FnScope ["_law_t", "_law_made"] ["_law_t"] (defScope s_l_named02) := by walk_at "sc"
theorem has_l_named02 (T : Txt K C mg) (hX_BadCell__init_ : HasEk P w K mg base .BadCell "value" "value") (hX_BadCount__init_ : HasEk P w K mg base .BadCount "count" "count") (hX_BadLine__init_ : HasEk P w K mg base .BadLine "number" "number") (hX_BadName__init_ : HasEk P w K mg base .BadName "name" "name") (hX_BadSet__init_ : HasEk P w K mg base .BadSet "value" "value") (hX_BadSide__init_ : HasEk P w K mg base .BadSide "word" "word") (hX_BadText__init_ : HasEk P w K mg base .BadText "text" "text") (hX_BadWish__init_ : HasEk P w K mg base .BadWish "value" "value") (hX_DuplicateName__init_ : HasEk P w K mg base .DuplicateName "name" "name") (hX_NotFirm__init_ : HasEk P w K mg base .NotFirm "value" "value") (hX_UnknownName__init_ : HasEk P w K mg base .UnknownName "name" "name") (hX_UnlikeOutcomes__init_ : HasEk P w K mg base .UnlikeOutcomes "names" "names") (h_BadCell__init_ : Y7 P w K mg base) (h_BadCount__init_ : Y4 P w K mg base) (h_BadLine__init_ : Y9 P w K mg base) (h_BadName__init_ : Y1 P w K mg base) (h_BadSet__init_ : Y6 P w K mg base) (h_BadSide__init_ : Y8 P w K mg base) (h_BadText__init_ : Y5 P w K mg base) (h_BadWish__init_ : Y10 P w K mg base) (h_DuplicateName__init_ : Y2 P w K mg base) (h_IsFirm__init_ : Y13 P w K mg base) (h_IsSmooth__init_ : Y14 P w K mg base) (h_NotFirm__init_ : Y12 P w K mg base) (h_NothingToUndo__init_ : Y15 P w K mg base) (h_UnknownName__init_ : Y3 P w K mg base) (h_UnlikeOutcomes__init_ : Y11 P w K mg base) {f : Addr} {fd : FuncData} (F : Fun K "_law_named" "_law_named" s_l_named02 f fd) (m : mg "_law_named" = some (.ref f)) (b : Binds K fd ["_law_t"] []) :
    Y22 P w K mg base := by
  refine ⟨f, fd, m, F.kp, b, trivial, fun_deep (T := t_l_named02) (k := 2) F sc_l_named02 ?_ (fun cdv A outer s H E hr => ?_) rd_l_named02⟩
  · walk_at "lenp"
  · obtain ⟨tk, hp⟩ := tkhp (X := cxOf (L2N.CX P w) P w K mg base ["_law_t", "_law_made"] "_law_named" (defScope s_l_named02) f cdv A outer s H E) rfl rfl rfl rfl
    exact dss_cons (ds_set (i := 1) (de_lst (da_cons (de_mkXK hX_BadName__init_ (hr.mono (by decide)) rfl (dk_cons (de_sub_ (de_var (pv 0)) (de_int pe_int)) dk_nil)) (da_cons (de_mkXK hX_DuplicateName__init_ (hr.mono (by decide)) rfl (dk_cons (de_sub_ (de_var (pv 0)) (de_int pe_int)) dk_nil)) (da_cons (de_mkXK hX_UnknownName__init_ (hr.mono (by decide)) rfl (dk_cons (de_sub_ (de_var (pv 0)) (de_int pe_int)) dk_nil)) (da_cons (de_mkXK hX_BadCount__init_ (hr.mono (by decide)) rfl (dk_cons (de_sub_ (de_var (pv 0)) (de_int pe_int)) dk_nil)) da_nil))))) sc_l_named02.nd)
      (dss_cons (ds_set (i := 1) (de_add (de_var (pv 1)) (de_lst (da_cons (de_mkXK hX_BadText__init_ (hr.mono (by decide)) rfl (dk_cons (de_sub_ (de_var (pv 0)) (de_int pe_int)) dk_nil)) (da_cons (de_mkXK hX_BadSet__init_ (hr.mono (by decide)) rfl (dk_cons (de_sub_ (de_var (pv 0)) (de_int pe_int)) dk_nil)) (da_cons (de_mkXK hX_BadCell__init_ (hr.mono (by decide)) rfl (dk_cons (de_sub_ (de_var (pv 0)) (de_int pe_int)) dk_nil)) (da_cons (de_mkXK hX_BadSide__init_ (hr.mono (by decide)) rfl (dk_cons (de_sub_ (de_var (pv 0)) (de_int pe_int)) dk_nil)) da_nil)))))) sc_l_named02.nd)
      (dss_cons (ds_set (i := 1) (de_add (de_var (pv 1)) (de_lst (da_cons (de_mkXK hX_BadLine__init_ (hr.mono (by decide)) rfl (dk_cons (de_sub_ (de_var (pv 0)) (de_int pe_int)) dk_nil)) (da_cons (de_mkXK hX_BadWish__init_ (hr.mono (by decide)) rfl (dk_cons (de_sub_ (de_var (pv 0)) (de_int pe_int)) dk_nil)) (da_cons (de_mkXK hX_UnlikeOutcomes__init_ (hr.mono (by decide)) rfl (dk_cons (de_sub_ (de_var (pv 0)) (de_int pe_int)) dk_nil)) (da_cons (de_mkXK hX_NotFirm__init_ (hr.mono (by decide)) rfl (dk_cons (de_sub_ (de_var (pv 0)) (de_int pe_int)) dk_nil)) da_nil)))))) sc_l_named02.nd)
      (dss_one (ds_ret (de_add (de_var (pv 1)) (de_lst (da_cons (de_mkX0 h_IsFirm__init_ (hr.mono (by decide)) rfl) (da_cons (de_mkX0 h_IsSmooth__init_ (hr.mono (by decide)) rfl) (da_cons (de_mkX0 h_NothingToUndo__init_ (hr.mono (by decide)) rfl) da_nil)))))))))
theorem sc_l_keeps02 : FnScope N5 ["_law_made", "_law_t"] (defScope s_l_keeps02) := by walk_at "sc"
theorem has_l_keeps02 (T : Txt K C mg) (h_l_kinds02 : Y19 P w K mg base) {f : Addr} {fd : FuncData} (F : Fun K "_law_keeps" "_law_keeps" s_l_keeps02 f fd) (m : mg "_law_keeps" = some (.ref f)) (b : Binds K fd ["_law_made", "_law_t"] []) :
    Y23 P w K mg base := by
  refine ⟨f, fd, m, F.kp, b, trivial, fun_deep (T := t_l_keeps02) (k := 1) F sc_l_keeps02 ?_ (fun cdv A outer s H E hr => ?_) rd_l_keeps02⟩
  · walk_at "lenp"
  · obtain ⟨tk, hp⟩ := tkhp (X := cxOf (L2N.CX P w) P w K mg base N5 "_law_keeps" (defScope s_l_keeps02) f cdv A outer s H E) rfl rfl rfl rfl
    exact dss_cons (ds_for hp rfl (di_range1 rfl T.m_range (de_int pe_int)) (dg_name (pg_name (i := 2) sc_l_keeps02.nd rfl (by walk_at "or"))) (dss_cons (ds_if (PW.pt (pw_or' (dt_not (dt_val (de_isV (t := .base) T.isv (by decide) rfl T.m_isinstance (de_sub_ (de_var (pv 0)) (de_var (pv 2))) rfl T.g_Base rfl))) (pw_or1 (dt_not (dt_val (de_isVE T.isv rfl T.m_isinstance (de_sub_ (de_var (pv 0)) (de_var (pv 2))) rfl T.m_ValueError)))))) (dss_one (ds_ret (de_bl pe_bl))) (dss_nil))
      (dss_one (ds_if (dt_ne hr.units (de_fnH h_l_kinds02 (hr.mono (by decide)) rfl tk (da_cons (de_sub_ (de_var (pv 0)) (de_var (pv 2))) da_nil)) (de_lc (fz := true) (own := [("_law_j", 6)]) rfl sc_l_keeps02.nd (di_range1 rfl T.m_range (de_int pe_int)) (blkOk_by (N := N5) (sc := defScope s_l_keeps02) (own := [("_law_j", 6)]) (by decide +kernel)) (ct_name (by decide)) (fun _ _ _ _ _ => pg_name (i := 6) sc_l_keeps02.nd rfl (by walk_at "or")) (fun _ _ _ _ _ => dts_nil) (fun _ _ _ _ _ => de_eq hr.units (de_var (pv 6)) (de_var (pv 2))))) (dss_one (ds_ret (de_bl pe_bl))) (dss_nil)))))
      (dss_cons (ds_set (i := 3) (de_lst (da_cons (de_xv T.x_BadName_name (de_sub_ (de_var (pv 0)) (de_int pe_int))) (da_cons (de_xv T.x_DuplicateName_name (de_sub_ (de_var (pv 0)) (de_int pe_int))) (da_cons (de_xv T.x_UnknownName_name (de_sub_ (de_var (pv 0)) (de_int pe_int))) (da_cons (de_xv T.x_BadCount_count (de_sub_ (de_var (pv 0)) (de_int pe_int))) (da_cons (de_xv T.x_BadText_text (de_sub_ (de_var (pv 0)) (de_int pe_int))) (da_cons (de_xv T.x_BadSet_value (de_sub_ (de_var (pv 0)) (de_int pe_int))) da_nil))))))) sc_l_keeps02.nd)
      (dss_cons (ds_set (i := 3) (de_add (de_var (pv 3)) (de_lst (da_cons (de_xv T.x_BadCell_value (de_sub_ (de_var (pv 0)) (de_int pe_int))) (da_cons (de_xv T.x_BadSide_word (de_sub_ (de_var (pv 0)) (de_int pe_int))) (da_cons (de_xv T.x_BadLine_number (de_sub_ (de_var (pv 0)) (de_int pe_int))) (da_cons (de_xv T.x_BadWish_value (de_sub_ (de_var (pv 0)) (de_int pe_int))) (da_cons (de_xv T.x_UnlikeOutcomes_names (de_sub_ (de_var (pv 0)) (de_int pe_int))) (da_cons (de_xv T.x_NotFirm_value (de_sub_ (de_var (pv 0)) (de_int pe_int))) da_nil)))))))) sc_l_keeps02.nd)
      (dss_cons (ds_setLc (i := 4) (fz := true) (own := [("_law_item", 5)]) rfl sc_l_keeps02.nd rfl rfl (sw_true rfl rfl rfl (by decide +kernel)) (di_any (de_var (pv 3))) (blkOk_by (N := N5) (sc := defScope s_l_keeps02) (own := [("_law_item", 5)]) (by decide +kernel)) (ct_name (by decide)) (fun _ _ _ _ _ => pg_name (i := 5) sc_l_keeps02.nd rfl (by walk_at "or")) (fun _ _ _ _ _ => dts_nil) (fun _ _ _ _ _ => de_isi .bool (by decide) rfl T.m_isinstance (de_var (pv 5)) rfl T.m_bool (by decide +kernel)))
      (dss_one (ds_ret (de_and (de_eqV hr.units (de_var (pv 3)) (de_var (pv 1))) (de_one (de_eq hr.units (de_var (pv 4)) (de_lc (fz := true) (own := [("_law_item", 5)]) rfl sc_l_keeps02.nd (di_any (de_var (pv 1))) (blkOk_by (N := N5) (sc := defScope s_l_keeps02) (own := [("_law_item", 5)]) (by decide +kernel)) (ct_name (by decide)) (fun _ _ _ _ _ => pg_name (i := 5) sc_l_keeps02.nd rfl (by walk_at "or")) (fun _ _ _ _ _ => dts_nil) (fun _ _ _ _ _ => de_isi .bool (by decide) rfl T.m_isinstance (de_var (pv 5)) rfl T.m_bool (by decide +kernel)))))))))))
theorem sc_law : FnScope N6 ["_law_script"] (defScope s_law) := by walk_at "sc"
theorem ok_law (T : Txt K C mg) (h_l_all02 : Y21 P w K mg base) (h_draw : Y17 P w K mg base) (h_l_keeps02 : Y23 P w K mg base) (h_l_named02 : Y22 P w K mg base) (h_start : Y16 P w K mg base) (h_l_thing02 : Y20 P w K mg base) {f : Addr} {fd : FuncData} (F : Fun K "law" "law" s_law f fd) : FnOk P w K mg base (L2N.CX P w) 4 f fd ["_law_script"] (spOf K S_law) := by
  refine fun_deep (T := (t_law C)) (k := 3) F sc_law ?_ (fun cdv A outer s H E hr => ?_) (rd_law (C := C))
  · walk_at "lenp"
  · obtain ⟨tk, hp⟩ := tkhp (X := cxOf (L2N.CX P w) P w K mg base N6 "law" (defScope s_law) f cdv A outer s H E) rfl rfl rfl rfl
    exact dss_cons (ds_set (i := 1) (de_fnH h_start (hr.mono (by decide)) rfl tk (da_cons (de_var (pv 0)) da_nil)) sc_law.nd)
      (dss_cons (ds_setLc (i := 2) (fz := true) (own := [("_law_k", 7)]) rfl sc_law.nd rfl rfl (sw_true rfl rfl rfl (by decide +kernel)) (di_range1 rfl T.m_range (de_int pe_int)) (blkOk_by (N := N6) (sc := defScope s_law) (own := [("_law_k", 7)]) (by decide +kernel)) (ct_name (by decide)) (fun _ _ _ _ _ => pg_name (i := 7) sc_law.nd rfl (by walk_at "or")) (fun _ _ _ _ _ => dts_nil) (fun _ _ _ _ _ => de_fnH h_l_thing02 (hr.mono (by decide)) rfl takes0N (da_cons (de_var (pv 1)) da_nil)))
      (dss_cons (ds_if (PW.pt (pw_or' (dt_not (dt_val (de_fnH h_l_keeps02 (hr.mono (by decide)) rfl tk (da_cons (de_fnH h_l_all02 (hr.mono (by decide)) rfl tk (da_cons (de_var (pv 2)) da_nil)) (da_cons (de_var (pv 2)) da_nil))))) (pw_or1 (dt_not (dt_val (de_fnH h_l_keeps02 (hr.mono (by decide)) rfl tk (da_cons (de_fnH h_l_named02 (hr.mono (by decide)) rfl tk (da_cons (de_var (pv 2)) da_nil)) (da_cons (de_var (pv 2)) da_nil)))))))) (dss_one (ds_ret (de_bl pe_bl))) (dss_nil))
      (dss_cons (ds_setLc (i := 3) (fz := true) (own := [("_law_k", 7)]) rfl sc_law.nd rfl rfl (sw_true rfl rfl rfl (by decide +kernel)) (di_range1 rfl T.m_range (de_int pe_int)) (blkOk_by (N := N6) (sc := defScope s_law) (own := [("_law_k", 7)]) (by decide +kernel)) (ct_name (by decide)) (fun _ _ _ _ _ => pg_name (i := 7) sc_law.nd rfl (by walk_at "or")) (fun _ _ _ _ _ => dts_nil) (fun _ _ _ _ _ => de_lstM (da_cons (de_fnH h_draw (hr.mono (by decide)) rfl takes0N (da_cons (de_var (pv 1)) (da_cons (de_int pe_int) da_nil))) da_nil)))
      (dss_cons (ds_set (i := 4) (de_lst (da_cons (de_fnH h_l_all02 (hr.mono (by decide)) rfl tk (da_cons (de_var (pv 3)) da_nil)) (da_cons (de_fnH h_l_named02 (hr.mono (by decide)) rfl tk (da_cons (de_var (pv 3)) da_nil)) da_nil))) sc_law.nd)
      (dss_cons (ds_for hp rfl (di_any (de_var (pv 3))) (dg_name (pg_name (i := 5) sc_law.nd rfl (by walk_at "or"))) (dss_one (ds_drop (de_append (de_var (pv 5)) (de_fnH h_draw (hr.mono (by decide)) rfl tk (da_cons (de_var (pv 1)) (da_cons (de_int pe_int) da_nil)))))))
      (dss_cons (ds_if (PW.pt (pw_or' (dt_not (dt_val (de_fnH h_l_keeps02 (hr.mono (by decide)) rfl tk (da_cons (de_sub_ (de_var (pv 4)) (de_int pe_int)) (da_cons (de_var (pv 3)) da_nil))))) (pw_or1 (dt_not (dt_val (de_fnH h_l_keeps02 (hr.mono (by decide)) rfl tk (da_cons (de_sub_ (de_var (pv 4)) (de_int pe_int)) (da_cons (de_var (pv 3)) da_nil)))))))) (dss_one (ds_ret (de_bl pe_bl))) (dss_nil))
      (dss_cons (ds_setLc (i := 6) (fz := true) (own := [("_law_k", 7)]) rfl sc_law.nd rfl rfl (sw_true rfl rfl rfl (by decide +kernel)) (di_range1 rfl T.m_range (de_int pe_int)) (blkOk_by (N := N6) (sc := defScope s_law) (own := [("_law_k", 7)]) (by decide +kernel)) (ct_name (by decide)) (fun _ _ _ _ _ => pg_name (i := 7) sc_law.nd rfl (by walk_at "or")) (fun _ _ _ _ _ => dts_nil) (fun _ _ _ _ _ => de_dict false (.cons (de_str pe_str) (de_fnH h_draw (hr.mono (by decide)) rfl takes0N (da_cons (de_var (pv 1)) (da_cons (de_int pe_int) da_nil))) (.nil))))
      (dss_cons (ds_set (i := 4) (de_lst (da_cons (de_fnH h_l_all02 (hr.mono (by decide)) rfl tk (da_cons (de_var (pv 6)) da_nil)) (da_cons (de_fnH h_l_named02 (hr.mono (by decide)) rfl tk (da_cons (de_var (pv 6)) da_nil)) da_nil))) sc_law.nd)
      (dss_cons (ds_for hp rfl (di_any (de_var (pv 6))) (dg_name (pg_name (i := 5) sc_law.nd rfl (by walk_at "or"))) (dss_one (ds_asg (de_lst (da_cons (de_dget (hu_of hr) (de_var (pv 5)) (de_str pe_str)) da_nil)) (dg_setD (pg_sub (de_var (pv 5)) (de_str pe_str) (set_dict (hu_of hr)))))))
      (dss_one (ds_ret (de_and (de_fnH h_l_keeps02 (hr.mono (by decide)) rfl tk (da_cons (de_sub_ (de_var (pv 4)) (de_int pe_int)) (da_cons (de_var (pv 6)) da_nil))) (de_one (de_fnH h_l_keeps02 (hr.mono (by decide)) rfl tk (da_cons (de_sub_ (de_var (pv 4)) (de_int pe_int)) (da_cons (de_var (pv 6)) da_nil))))))))))))))))
end
theorem facts {P : Program} {w : World} {K : PySem.W.Frag} {h : Heap} {mg : Str → Option Value} {f : Addr} (X : K.In h) (G : h.Ns mainGlobals mg) (hfa : mg ("law" : Str) = some (.ref f)) (c : SaysA FA EX FN K) :
    ∃ fd : FuncData, (∀ (s : Shared) (v : Value), BindsTo s fd ⟨[v], []⟩ [("_law_script", v)]) ∧ ∀ base : Heap, K.In base → base.Ns mainGlobals mg → FnOk P w K mg base (L2N.CX P w) 4 f fd ["_law_script"] (spOf K S_law) := by
  let C : Cs := {  }
  have T : Txt K C mg := ⟨He.free_ok X G (c.fact 0 (f := .free "ValueError") rfl), He.free_ok X G (c.fact 1 (f := .free "len") rfl), He.free_ok X G (c.fact 2 (f := .free "abs") rfl), He.free_ok X G (c.fact 3 (f := .free "int") rfl), He.free_ok X G (c.fact 4 (f := .free "list") rfl), He.free_ok X G (c.fact 5 (f := .free "range") rfl), He.free_ok X G (c.fact 6 (f := .free "isinstance") rfl), He.free_ok X G (c.fact 7 (f := .free "bool") rfl), He.glo_ok X G (c.fact 8 (f := .glo "BadCell") rfl), He.glo_ok X G (c.fact 9 (f := .glo "BadCount") rfl), He.glo_ok X G (c.fact 10 (f := .glo "BadLine") rfl), He.glo_ok X G (c.fact 11 (f := .glo "BadName") rfl), He.glo_ok X G (c.fact 12 (f := .glo "BadSet") rfl), He.glo_ok X G (c.fact 13 (f := .glo "BadSide") rfl), He.glo_ok X G (c.fact 14 (f := .glo "BadText") rfl), He.glo_ok X G (c.fact 15 (f := .glo "BadWish") rfl), He.glo_ok X G (c.fact 16 (f := .glo "DuplicateName") rfl), He.glo_ok X G (c.fact 17 (f := .glo "IsFirm") rfl), He.glo_ok X G (c.fact 18 (f := .glo "IsSmooth") rfl), He.glo_ok X G (c.fact 19 (f := .glo "NotFirm") rfl), He.glo_ok X G (c.fact 20 (f := .glo "NothingToUndo") rfl), He.glo_ok X G (c.fact 21 (f := .glo "UnknownName") rfl), He.glo_ok X G (c.fact 22 (f := .glo "UnlikeOutcomes") rfl), xfldB_ok (c.ex_ 0 (f := xfldB .BadCell "value") rfl), xfldB_ok (c.ex_ 1 (f := xfldB .BadCount "count") rfl), xfldB_ok (c.ex_ 2 (f := xfldB .BadLine "number") rfl), xfldB_ok (c.ex_ 3 (f := xfldB .BadName "name") rfl), xfldB_ok (c.ex_ 4 (f := xfldB .BadSet "value") rfl), xfldB_ok (c.ex_ 5 (f := xfldB .BadSide "word") rfl), xfldB_ok (c.ex_ 6 (f := xfldB .BadText "text") rfl), xfldB_ok (c.ex_ 7 (f := xfldB .BadWish "value") rfl), xfldB_ok (c.ex_ 8 (f := xfldB .DuplicateName "name") rfl), xfldB_ok (c.ex_ 9 (f := xfldB .NotFirm "value") rfl), xfldB_ok (c.ex_ 10 (f := xfldB .UnknownName "name") rfl), xfldB_ok (c.ex_ 11 (f := xfldB .UnlikeOutcomes "names") rfl), isvB_ok (c.ex_ 12 (f := isvB [.BadName, .DuplicateName, .UnknownName, .BadCount, .BadText, .BadSet, .BadCell, .BadSide, .BadLine, .BadWish, .UnlikeOutcomes, .IsFirm, .IsSmooth, .NotFirm, .NothingToUndo]) rfl), baseB_ok (c.ex_ 13 (f := baseB) rfl), He.glo_ok X G (c.fact 23 (f := .glo "ChooserError") rfl)⟩
  have e := hfa.symm.trans (He.glo_ok X G (c.fact 24 (f := .glo "law") rfl))
  cases e
  obtain ⟨fd0, F0⟩ := c.def_ 0 (d := ⟨.meth "BadName" "__init__", "BadName.__init__", s_BadName__init_⟩) rfl
  have b0 := F0.binds (ps := ["self", "name"]) fun _ _ _ _ _ _ us hl => match us, hl with | [_, _], _ => rfl
  obtain ⟨fd1, F1⟩ := c.def_ 1 (d := ⟨.meth "DuplicateName" "__init__", "DuplicateName.__init__", s_DuplicateName__init_⟩) rfl
  have b1 := F1.binds (ps := ["self", "name"]) fun _ _ _ _ _ _ us hl => match us, hl with | [_, _], _ => rfl
  obtain ⟨fd2, F2⟩ := c.def_ 2 (d := ⟨.meth "UnknownName" "__init__", "UnknownName.__init__", s_UnknownName__init_⟩) rfl
  have b2 := F2.binds (ps := ["self", "name"]) fun _ _ _ _ _ _ us hl => match us, hl with | [_, _], _ => rfl
  obtain ⟨fd3, F3⟩ := c.def_ 3 (d := ⟨.meth "BadCount" "__init__", "BadCount.__init__", s_BadCount__init_⟩) rfl
  have b3 := F3.binds (ps := ["self", "count"]) fun _ _ _ _ _ _ us hl => match us, hl with | [_, _], _ => rfl
  obtain ⟨fd4, F4⟩ := c.def_ 4 (d := ⟨.meth "BadText" "__init__", "BadText.__init__", s_BadText__init_⟩) rfl
  have b4 := F4.binds (ps := ["self", "text"]) fun _ _ _ _ _ _ us hl => match us, hl with | [_, _], _ => rfl
  obtain ⟨fd5, F5⟩ := c.def_ 5 (d := ⟨.meth "BadSet" "__init__", "BadSet.__init__", s_BadSet__init_⟩) rfl
  have b5 := F5.binds (ps := ["self", "value"]) fun _ _ _ _ _ _ us hl => match us, hl with | [_, _], _ => rfl
  obtain ⟨fd6, F6⟩ := c.def_ 6 (d := ⟨.meth "BadCell" "__init__", "BadCell.__init__", s_BadCell__init_⟩) rfl
  have b6 := F6.binds (ps := ["self", "value"]) fun _ _ _ _ _ _ us hl => match us, hl with | [_, _], _ => rfl
  obtain ⟨fd7, F7⟩ := c.def_ 7 (d := ⟨.meth "BadSide" "__init__", "BadSide.__init__", s_BadSide__init_⟩) rfl
  have b7 := F7.binds (ps := ["self", "word"]) fun _ _ _ _ _ _ us hl => match us, hl with | [_, _], _ => rfl
  obtain ⟨fd8, F8⟩ := c.def_ 8 (d := ⟨.meth "BadLine" "__init__", "BadLine.__init__", s_BadLine__init_⟩) rfl
  have b8 := F8.binds (ps := ["self", "number"]) fun _ _ _ _ _ _ us hl => match us, hl with | [_, _], _ => rfl
  obtain ⟨fd9, F9⟩ := c.def_ 9 (d := ⟨.meth "BadWish" "__init__", "BadWish.__init__", s_BadWish__init_⟩) rfl
  have b9 := F9.binds (ps := ["self", "value"]) fun _ _ _ _ _ _ us hl => match us, hl with | [_, _], _ => rfl
  obtain ⟨fd10, F10⟩ := c.def_ 10 (d := ⟨.meth "UnlikeOutcomes" "__init__", "UnlikeOutcomes.__init__", s_UnlikeOutcomes__init_⟩) rfl
  have b10 := F10.binds (ps := ["self", "names"]) fun _ _ _ _ _ _ us hl => match us, hl with | [_, _], _ => rfl
  obtain ⟨fd11, F11⟩ := c.def_ 11 (d := ⟨.meth "NotFirm" "__init__", "NotFirm.__init__", s_NotFirm__init_⟩) rfl
  have b11 := F11.binds (ps := ["self", "value"]) fun _ _ _ _ _ _ us hl => match us, hl with | [_, _], _ => rfl
  obtain ⟨fd12, F12⟩ := c.def_ 12 (d := ⟨.meth "IsFirm" "__init__", "IsFirm.__init__", s_IsFirm__init_⟩) rfl
  have b12 := F12.binds (ps := ["self"]) fun _ _ _ _ _ _ us hl => match us, hl with | [_], _ => rfl
  obtain ⟨fd13, F13⟩ := c.def_ 13 (d := ⟨.meth "IsSmooth" "__init__", "IsSmooth.__init__", s_IsSmooth__init_⟩) rfl
  have b13 := F13.binds (ps := ["self"]) fun _ _ _ _ _ _ us hl => match us, hl with | [_], _ => rfl
  obtain ⟨fd14, F14⟩ := c.def_ 14 (d := ⟨.meth "NothingToUndo" "__init__", "NothingToUndo.__init__", s_NothingToUndo__init_⟩) rfl
  have b14 := F14.binds (ps := ["self"]) fun _ _ _ _ _ _ us hl => match us, hl with | [_], _ => rfl
  obtain ⟨fd15, F15⟩ := c.def_ 15 (d := ⟨.glo "_law_start", "_law_start", s_start⟩) rfl
  have b15 := F15.binds (ps := ["_law_script"]) fun _ _ _ _ _ _ us hl => match us, hl with | [_], _ => rfl
  obtain ⟨fd16, F16⟩ := c.def_ 16 (d := ⟨.glo "_law_draw", "_law_draw", s_draw⟩) rfl
  have b16 := F16.binds (ps := ["_law_state", "_law_size"]) fun _ _ _ _ _ _ us hl => match us, hl with | [_, _], _ => rfl
  obtain ⟨fd17, F17⟩ := c.def_ 17 (d := ⟨.glo "_law_signs", "_law_signs", s_l_signs02⟩) rfl
  have b17 := F17.binds (ps := []) fun _ _ _ _ _ _ us hl => match us, hl with | [], _ => rfl
  obtain ⟨fd18, F18⟩ := c.def_ 18 (d := ⟨.glo "_law_kinds", "_law_kinds", s_l_kinds02⟩) rfl
  have b18 := F18.binds (ps := ["_law_e"]) fun _ _ _ _ _ _ us hl => match us, hl with | [_], _ => rfl
  obtain ⟨fd19, F19⟩ := c.def_ 19 (d := ⟨.glo "_law_thing", "_law_thing", s_l_thing02⟩) rfl
  have b19 := F19.binds (ps := ["_law_state"]) fun _ _ _ _ _ _ us hl => match us, hl with | [_], _ => rfl
  obtain ⟨fd20, F20⟩ := c.def_ 20 (d := ⟨.glo "_law_all", "_law_all", s_l_all02⟩) rfl
  have b20 := F20.binds (ps := ["_law_t"]) fun _ _ _ _ _ _ us hl => match us, hl with | [_], _ => rfl
  obtain ⟨fd21, F21⟩ := c.def_ 21 (d := ⟨.glo "_law_named", "_law_named", s_l_named02⟩) rfl
  have b21 := F21.binds (ps := ["_law_t"]) fun _ _ _ _ _ _ us hl => match us, hl with | [_], _ => rfl
  obtain ⟨fd22, F22⟩ := c.def_ 22 (d := ⟨.glo "_law_keeps", "_law_keeps", s_l_keeps02⟩) rfl
  have b22 := F22.binds (ps := ["_law_made", "_law_t"]) fun _ _ _ _ _ _ us hl => match us, hl with | [_, _], _ => rfl
  obtain ⟨fd23, F23⟩ := c.def_ 23 (d := ⟨.glo "law", "law", s_law⟩) rfl
  have b23 := F23.binds (ps := ["_law_script"]) fun _ _ _ _ _ _ us hl => match us, hl with | [_], _ => rfl
  have h_BadName__init_ : ∀ base, Y1 P w K mg base := fun base => has_BadName__init_ (C := C) T  F0 (errB_ok (c.ex_ 14 (f := errB .BadName) rfl)) b0 (He.noat_ok (c.fact 25 (f := .noat "BadName" "name") rfl))
  have hX_BadName__init_ : ∀ base, HasEk P w K mg base .BadName "name" "name" := by
    obtain ⟨⟨oc0, od0, kV0, dc0, pm0, an0, cd0, ct0, sl0, rfl, lk0, cc0⟩, kp0⟩ := id F0
    exact fun base => hasX_BadName__init_ (C := C) T F0 (errB_ok (c.ex_ 14 (f := errB .BadName) rfl)) b0 (fun s us ws _ h1 h2 => (match us, ws, h1, h2 with | [_], [_], _, _ => .of_eq rfl)) (He.noat_ok (c.fact 25 (f := .noat "BadName" "name") rfl))
  have h_DuplicateName__init_ : ∀ base, Y2 P w K mg base := fun base => has_DuplicateName__init_ (C := C) T  F1 (errB_ok (c.ex_ 15 (f := errB .DuplicateName) rfl)) b1 (He.noat_ok (c.fact 26 (f := .noat "DuplicateName" "name") rfl))
  have hX_DuplicateName__init_ : ∀ base, HasEk P w K mg base .DuplicateName "name" "name" := by
    obtain ⟨⟨oc1, od1, kV1, dc1, pm1, an1, cd1, ct1, sl1, rfl, lk1, cc1⟩, kp1⟩ := id F1
    exact fun base => hasX_DuplicateName__init_ (C := C) T F1 (errB_ok (c.ex_ 15 (f := errB .DuplicateName) rfl)) b1 (fun s us ws _ h1 h2 => (match us, ws, h1, h2 with | [_], [_], _, _ => .of_eq rfl)) (He.noat_ok (c.fact 26 (f := .noat "DuplicateName" "name") rfl))
  have h_UnknownName__init_ : ∀ base, Y3 P w K mg base := fun base => has_UnknownName__init_ (C := C) T  F2 (errB_ok (c.ex_ 16 (f := errB .UnknownName) rfl)) b2 (He.noat_ok (c.fact 27 (f := .noat "UnknownName" "name") rfl))
  have hX_UnknownName__init_ : ∀ base, HasEk P w K mg base .UnknownName "name" "name" := by
    obtain ⟨⟨oc2, od2, kV2, dc2, pm2, an2, cd2, ct2, sl2, rfl, lk2, cc2⟩, kp2⟩ := id F2
    exact fun base => hasX_UnknownName__init_ (C := C) T F2 (errB_ok (c.ex_ 16 (f := errB .UnknownName) rfl)) b2 (fun s us ws _ h1 h2 => (match us, ws, h1, h2 with | [_], [_], _, _ => .of_eq rfl)) (He.noat_ok (c.fact 27 (f := .noat "UnknownName" "name") rfl))
  have h_BadCount__init_ : ∀ base, Y4 P w K mg base := fun base => has_BadCount__init_ (C := C) T  F3 (errB_ok (c.ex_ 17 (f := errB .BadCount) rfl)) b3 (He.noat_ok (c.fact 28 (f := .noat "BadCount" "count") rfl))
  have hX_BadCount__init_ : ∀ base, HasEk P w K mg base .BadCount "count" "count" := by
    obtain ⟨⟨oc3, od3, kV3, dc3, pm3, an3, cd3, ct3, sl3, rfl, lk3, cc3⟩, kp3⟩ := id F3
    exact fun base => hasX_BadCount__init_ (C := C) T F3 (errB_ok (c.ex_ 17 (f := errB .BadCount) rfl)) b3 (fun s us ws _ h1 h2 => (match us, ws, h1, h2 with | [_], [_], _, _ => .of_eq rfl)) (He.noat_ok (c.fact 28 (f := .noat "BadCount" "count") rfl))
  have h_BadText__init_ : ∀ base, Y5 P w K mg base := fun base => has_BadText__init_ (C := C) T  F4 (errB_ok (c.ex_ 18 (f := errB .BadText) rfl)) b4 (He.noat_ok (c.fact 29 (f := .noat "BadText" "text") rfl))
  have hX_BadText__init_ : ∀ base, HasEk P w K mg base .BadText "text" "text" := by
    obtain ⟨⟨oc4, od4, kV4, dc4, pm4, an4, cd4, ct4, sl4, rfl, lk4, cc4⟩, kp4⟩ := id F4
    exact fun base => hasX_BadText__init_ (C := C) T F4 (errB_ok (c.ex_ 18 (f := errB .BadText) rfl)) b4 (fun s us ws _ h1 h2 => (match us, ws, h1, h2 with | [_], [_], _, _ => .of_eq rfl)) (He.noat_ok (c.fact 29 (f := .noat "BadText" "text") rfl))
  have h_BadSet__init_ : ∀ base, Y6 P w K mg base := fun base => has_BadSet__init_ (C := C) T  F5 (errB_ok (c.ex_ 19 (f := errB .BadSet) rfl)) b5 (He.noat_ok (c.fact 30 (f := .noat "BadSet" "value") rfl))
  have hX_BadSet__init_ : ∀ base, HasEk P w K mg base .BadSet "value" "value" := by
    obtain ⟨⟨oc5, od5, kV5, dc5, pm5, an5, cd5, ct5, sl5, rfl, lk5, cc5⟩, kp5⟩ := id F5
    exact fun base => hasX_BadSet__init_ (C := C) T F5 (errB_ok (c.ex_ 19 (f := errB .BadSet) rfl)) b5 (fun s us ws _ h1 h2 => (match us, ws, h1, h2 with | [_], [_], _, _ => .of_eq rfl)) (He.noat_ok (c.fact 30 (f := .noat "BadSet" "value") rfl))
  have h_BadCell__init_ : ∀ base, Y7 P w K mg base := fun base => has_BadCell__init_ (C := C) T  F6 (errB_ok (c.ex_ 20 (f := errB .BadCell) rfl)) b6 (He.noat_ok (c.fact 31 (f := .noat "BadCell" "value") rfl))
  have hX_BadCell__init_ : ∀ base, HasEk P w K mg base .BadCell "value" "value" := by
    obtain ⟨⟨oc6, od6, kV6, dc6, pm6, an6, cd6, ct6, sl6, rfl, lk6, cc6⟩, kp6⟩ := id F6
    exact fun base => hasX_BadCell__init_ (C := C) T F6 (errB_ok (c.ex_ 20 (f := errB .BadCell) rfl)) b6 (fun s us ws _ h1 h2 => (match us, ws, h1, h2 with | [_], [_], _, _ => .of_eq rfl)) (He.noat_ok (c.fact 31 (f := .noat "BadCell" "value") rfl))
  have h_BadSide__init_ : ∀ base, Y8 P w K mg base := fun base => has_BadSide__init_ (C := C) T  F7 (errB_ok (c.ex_ 21 (f := errB .BadSide) rfl)) b7 (He.noat_ok (c.fact 32 (f := .noat "BadSide" "word") rfl))
  have hX_BadSide__init_ : ∀ base, HasEk P w K mg base .BadSide "word" "word" := by
    obtain ⟨⟨oc7, od7, kV7, dc7, pm7, an7, cd7, ct7, sl7, rfl, lk7, cc7⟩, kp7⟩ := id F7
    exact fun base => hasX_BadSide__init_ (C := C) T F7 (errB_ok (c.ex_ 21 (f := errB .BadSide) rfl)) b7 (fun s us ws _ h1 h2 => (match us, ws, h1, h2 with | [_], [_], _, _ => .of_eq rfl)) (He.noat_ok (c.fact 32 (f := .noat "BadSide" "word") rfl))
  have h_BadLine__init_ : ∀ base, Y9 P w K mg base := fun base => has_BadLine__init_ (C := C) T  F8 (errB_ok (c.ex_ 22 (f := errB .BadLine) rfl)) b8 (He.noat_ok (c.fact 33 (f := .noat "BadLine" "number") rfl))
  have hX_BadLine__init_ : ∀ base, HasEk P w K mg base .BadLine "number" "number" := by
    obtain ⟨⟨oc8, od8, kV8, dc8, pm8, an8, cd8, ct8, sl8, rfl, lk8, cc8⟩, kp8⟩ := id F8
    exact fun base => hasX_BadLine__init_ (C := C) T F8 (errB_ok (c.ex_ 22 (f := errB .BadLine) rfl)) b8 (fun s us ws _ h1 h2 => (match us, ws, h1, h2 with | [_], [_], _, _ => .of_eq rfl)) (He.noat_ok (c.fact 33 (f := .noat "BadLine" "number") rfl))
  have h_BadWish__init_ : ∀ base, Y10 P w K mg base := fun base => has_BadWish__init_ (C := C) T  F9 (errB_ok (c.ex_ 23 (f := errB .BadWish) rfl)) b9 (He.noat_ok (c.fact 34 (f := .noat "BadWish" "value") rfl))
  have hX_BadWish__init_ : ∀ base, HasEk P w K mg base .BadWish "value" "value" := by
    obtain ⟨⟨oc9, od9, kV9, dc9, pm9, an9, cd9, ct9, sl9, rfl, lk9, cc9⟩, kp9⟩ := id F9
    exact fun base => hasX_BadWish__init_ (C := C) T F9 (errB_ok (c.ex_ 23 (f := errB .BadWish) rfl)) b9 (fun s us ws _ h1 h2 => (match us, ws, h1, h2 with | [_], [_], _, _ => .of_eq rfl)) (He.noat_ok (c.fact 34 (f := .noat "BadWish" "value") rfl))
  have h_UnlikeOutcomes__init_ : ∀ base, Y11 P w K mg base := fun base => has_UnlikeOutcomes__init_ (C := C) T  F10 (errB_ok (c.ex_ 24 (f := errB .UnlikeOutcomes) rfl)) b10 (He.noat_ok (c.fact 35 (f := .noat "UnlikeOutcomes" "names") rfl))
  have hX_UnlikeOutcomes__init_ : ∀ base, HasEk P w K mg base .UnlikeOutcomes "names" "names" := by
    obtain ⟨⟨oc10, od10, kV10, dc10, pm10, an10, cd10, ct10, sl10, rfl, lk10, cc10⟩, kp10⟩ := id F10
    exact fun base => hasX_UnlikeOutcomes__init_ (C := C) T F10 (errB_ok (c.ex_ 24 (f := errB .UnlikeOutcomes) rfl)) b10 (fun s us ws _ h1 h2 => (match us, ws, h1, h2 with | [_], [_], _, _ => .of_eq rfl)) (He.noat_ok (c.fact 35 (f := .noat "UnlikeOutcomes" "names") rfl))
  have h_NotFirm__init_ : ∀ base, Y12 P w K mg base := fun base => has_NotFirm__init_ (C := C) T  F11 (errB_ok (c.ex_ 25 (f := errB .NotFirm) rfl)) b11 (He.noat_ok (c.fact 36 (f := .noat "NotFirm" "value") rfl))
  have hX_NotFirm__init_ : ∀ base, HasEk P w K mg base .NotFirm "value" "value" := by
    obtain ⟨⟨oc11, od11, kV11, dc11, pm11, an11, cd11, ct11, sl11, rfl, lk11, cc11⟩, kp11⟩ := id F11
    exact fun base => hasX_NotFirm__init_ (C := C) T F11 (errB_ok (c.ex_ 25 (f := errB .NotFirm) rfl)) b11 (fun s us ws _ h1 h2 => (match us, ws, h1, h2 with | [_], [_], _, _ => .of_eq rfl)) (He.noat_ok (c.fact 36 (f := .noat "NotFirm" "value") rfl))
  have h_IsFirm__init_ : ∀ base, Y13 P w K mg base := fun base => has_IsFirm__init_ (C := C) T  F12 (errB_ok (c.ex_ 26 (f := errB .IsFirm) rfl)) b12
  have h_IsSmooth__init_ : ∀ base, Y14 P w K mg base := fun base => has_IsSmooth__init_ (C := C) T  F13 (errB_ok (c.ex_ 27 (f := errB .IsSmooth) rfl)) b13
  have h_NothingToUndo__init_ : ∀ base, Y15 P w K mg base := fun base => has_NothingToUndo__init_ (C := C) T  F14 (errB_ok (c.ex_ 28 (f := errB .NothingToUndo) rfl)) b14
  have h_start : ∀ base, Y16 P w K mg base := fun base => has_start (C := C) T  F15 (He.glo_ok X G (c.fact 37 (f := .glo "_law_start") rfl)) b15
  have h_draw : ∀ base, Y17 P w K mg base := fun base => has_draw (C := C) T  F16 (He.glo_ok X G (c.fact 38 (f := .glo "_law_draw") rfl)) b16
  have h_l_signs02 : ∀ base, Y18 P w K mg base := fun base => has_l_signs02 (C := C) T  F17 (He.glo_ok X G (c.fact 39 (f := .glo "_law_signs") rfl)) b17
  have h_l_kinds02 : ∀ base, Y19 P w K mg base := fun base => has_l_kinds02 (C := C) T  F18 (He.glo_ok X G (c.fact 40 (f := .glo "_law_kinds") rfl)) b18
  have h_l_thing02 : ∀ base, Y20 P w K mg base := fun base => has_l_thing02 (C := C) T (h_draw base) (h_l_signs02 base) F19 (He.glo_ok X G (c.fact 41 (f := .glo "_law_thing") rfl)) b19
  have h_l_all02 : ∀ base, Y21 P w K mg base := fun base => has_l_all02 (C := C) T (h_BadCell__init_ base) (h_BadCount__init_ base) (h_BadLine__init_ base) (h_BadName__init_ base) (h_BadSet__init_ base) (h_BadSide__init_ base) (h_BadText__init_ base) (h_BadWish__init_ base) (h_DuplicateName__init_ base) (h_IsFirm__init_ base) (h_IsSmooth__init_ base) (h_NotFirm__init_ base) (h_NothingToUndo__init_ base) (h_UnknownName__init_ base) (h_UnlikeOutcomes__init_ base) F20 (He.glo_ok X G (c.fact 42 (f := .glo "_law_all") rfl)) b20
  have h_l_named02 : ∀ base, Y22 P w K mg base := fun base => has_l_named02 (C := C) T (hX_BadCell__init_ base) (hX_BadCount__init_ base) (hX_BadLine__init_ base) (hX_BadName__init_ base) (hX_BadSet__init_ base) (hX_BadSide__init_ base) (hX_BadText__init_ base) (hX_BadWish__init_ base) (hX_DuplicateName__init_ base) (hX_NotFirm__init_ base) (hX_UnknownName__init_ base) (hX_UnlikeOutcomes__init_ base) (h_BadCell__init_ base) (h_BadCount__init_ base) (h_BadLine__init_ base) (h_BadName__init_ base) (h_BadSet__init_ base) (h_BadSide__init_ base) (h_BadText__init_ base) (h_BadWish__init_ base) (h_DuplicateName__init_ base) (h_IsFirm__init_ base) (h_IsSmooth__init_ base) (h_NotFirm__init_ base) (h_NothingToUndo__init_ base) (h_UnknownName__init_ base) (h_UnlikeOutcomes__init_ base) F21 (He.glo_ok X G (c.fact 43 (f := .glo "_law_named") rfl)) b21
  have h_l_keeps02 : ∀ base, Y23 P w K mg base := fun base => has_l_keeps02 (C := C) T (h_l_kinds02 base) F22 (He.glo_ok X G (c.fact 44 (f := .glo "_law_keeps") rfl)) b22
  obtain ⟨⟨_, _, _, _, _, _, _, _, _, rfl, _, _⟩, _⟩ := id F23
  exact ⟨_, fun s v => .of_eq rfl, fun base _ _ => ok_law (C := C) T (h_l_all02 base) (h_draw base) (h_l_keeps02 base) (h_l_named02 base) (h_start base) (h_l_thing02 base) F23⟩
end K02
open PySem PySem.W PySem.Calls PyProof.Rows
set_option maxRecDepth 100000 in
set_option maxHeartbeats 0 in
theorem PySem.Challenge.cw_twochoosers_k02_errors_holds : PySem.Challenge.rw_twochoosers_k02_errors.Holds := by
  w_on; o_law
  refine HandSHeadRun.head_any (r := OpenLaw.row PySem.Challenge.rw_twochoosers_k02_errors) (q := view (OpenLaw.row PySem.Challenge.rw_twochoosers_k02_errors).prog [26]) (H := K02.hk) (ob := K02.ob) (M := 9000) (loose := K02.loose) (d := HandSHeadRun.topDef (OpenLaw.row PySem.Challenge.rw_twochoosers_k02_errors).prog 26) (kwd := []) K02.ob_eq
    (by kernel_rfl) (fun s => by kernel_rfl) K02.run (by kernel_rfl) (by kernel_rfl) (by kernel_rfl) (by rfl) (by first | assumption | decide +kernel) (by decide +kernel) ⟨rfl, rfl, rfl, rfl, rfl, by decide +kernel⟩ ?hw ?hc
  case hw => w_witness2
  case hc =>
    refine DV.walk_deepE (l := PySem.Challenge.rw_twochoosers_k02_errors) (n := 63) (k := 4) (x := "_law_script") (S := DV.S_law) rfl (by decide) (by kernel_rfl) ?F (fun ns hl => ⟨ns, rfl, hl, rfl, fun _ => rfl⟩)
    intro w mg fa h Y G hmg0
    obtain ⟨K, KX, c⟩ := Y
    have hmg : mg ("law" : PySem.Str) = some (.ref fa) := by
      have e : (HandSHeadRun.topDef (OpenLaw.row PySem.Challenge.rw_twochoosers_k02_errors).prog 26).name = ("law" : PySem.Str) := by kernel_rfl
      rw [← e]
      exact hmg0
    obtain ⟨fd, hb, hF⟩ := K02.facts (P := (PySem.Challenge.rw_twochoosers_k02_errors).prog) (w := w) KX G hmg c
    exact ⟨K, fd, KX, hb, hF⟩
