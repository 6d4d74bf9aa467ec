import PyProof.Rows.All
import Wide.All
import OpenK.AllK
import Wide.FinOn
import HandS.ForMost
import HandS.Exc
import HandS.ExcOwn
import HandS.TryOnly
import HandS.TryMany
import HandS.ExcInit
import HandS.WordsExc
import HandS.Walk
import HandS.IsInst
import HandS.Flow
import HandS.Lambda
import HandS.TupAny
import HandS.Style
import HandS.Wide
import HandS.Property
import HandS.Deep
import HandS.SortKw
import KE.SortKeyHeap
import HandS.Keys
import PyProof.P3In
import PySem.Challenge.RW_twochoosers_k20_sets
set_option Elab.async false
set_option linter.all false
set_option maxRecDepth 100000
set_option maxHeartbeats 4000000
/-! Deep data over the hand layer: values as trees, mutable objects as cells, and readings that speak of no heap. -/
namespace DV
open PySem L2

inductive D where
  | non | bl (b : Bool) | int (i : Int) | str (x : Str) | ref (l : Nat) | cls (C : Addr)
  | scr (ns : List Int) | lst (xs : List D) | tup (xs : List D) | dct (kvs : List (Key × D)) | ins (C : Addr) (fs : List (Str × D))

abbrev Gam := List (Option D)
inductive Cell where
  | gone | lst (xs : List D) | dct (kvs : List (Key × D)) | ins (C : Addr) (fs : List (Str × D)) | orc (n : Nat × Bool)
abbrev Mu := List Cell
/-- the heap as it is looked at: Hb what is fixed for ever, H all, al the cells' addresses, ph the oracle's inner ones -/
structure Now where
  Hb : Hp
  H : Hp
  al : List Addr
  ph : List Addr

mutual
inductive Rep (K : PySem.W.Frag) (Hb : Hp) (al : List Addr) : V → D → Prop
  | non : Rep K Hb al .non .non
  | bl (b) : Rep K Hb al (.bl b) (.bl b)
  | int (i) : Rep K Hb al (.int i) (.int i)
  | str (x) : Rep K Hb al (.str x) (.str x)
  | ref {l a} : al[l]? = some a → Rep K Hb al (.ref a) (.ref l)
  | cls (C) : Rep K Hb al (.ref C) (.cls C)
  | scr {a ns} : SqL K Hb a (ns.map V.int) → Rep K Hb al (.ref a) (.scr ns)
  | lst {a vs ds} : Hb a = some (.lst vs) → Reps K Hb al vs ds → Rep K Hb al (.ref a) (.lst ds)
  | tup {a vs ds} : Hb a = some (.tup vs) → Reps K Hb al vs ds → Rep K Hb al (.ref a) (.tup ds)
  | dct {a us ks ds} : Hb a = some (.dK us) → ks = us.map (·.1) → Reps K Hb al (us.map (·.2)) ds → Rep K Hb al (.ref a) (.dct (ks.zip ds))
  | ins {a C dx us ks ds} : Hb a = some (.ins C dx us) → ks = us.map (·.1) → Reps K Hb al (us.map (·.2)) ds → Rep K Hb al (.ref a) (.ins C (ks.zip ds))
inductive Reps (K : PySem.W.Frag) (Hb : Hp) (al : List Addr) : List V → List D → Prop
  | nil : Reps K Hb al [] []
  | cons {v d vs ds} : Rep K Hb al v d → Reps K Hb al vs ds → Reps K Hb al (v :: vs) (d :: ds)
end

theorem same_tup {K : PySem.W.Frag} {H H' : Hp} {a : Addr} {xs : List V} (e : Same H H') (h : SqT K H a xs) : SqT K H' a xs := by
  rcases h with (h | ⟨o, h⟩) | h
  · exact .inl (.inl (e _ _ h))
  · exact .inl (.inr ⟨o, e _ _ h⟩)
  · exact .inr h
theorem pre_get {α : Type} {l l' : List α} (p : l <+: l') {i : Nat} {a : α} (h : l[i]? = some a) : l'[i]? = some a := by
  obtain ⟨t, rfl⟩ := p
  have hi : i < l.length := (List.getElem?_eq_some_iff.mp h).1
  rw [List.getElem?_append_left hi]
  exact h
section
variable {K : PySem.W.Frag} {Hb Hb' : Hp} {al al' : List Addr}
mutual
theorem Rep.mono (s : Same Hb Hb') (p : al <+: al') : ∀ {v : V} {d : D}, Rep K Hb al v d → Rep K Hb' al' v d
  | _, _, .non => .non
  | _, _, .bl b => .bl b
  | _, _, .int i => .int i
  | _, _, .str x => .str x
  | _, _, .ref h => .ref (pre_get p h)
  | _, _, .cls C => .cls C
  | _, _, .scr h => .scr (s.seq h)
  | _, _, .lst h r => .lst (s _ _ h) (Reps.mono s p r)
  | _, _, .tup h r => .tup (s _ _ h) (Reps.mono s p r)
  | _, _, .dct h e r => .dct (s _ _ h) e (Reps.mono s p r)
  | _, _, .ins h e r => .ins (s _ _ h) e (Reps.mono s p r)
theorem Reps.mono (s : Same Hb Hb') (p : al <+: al') : ∀ {vs : List V} {ds : List D}, Reps K Hb al vs ds → Reps K Hb' al' vs ds
  | _, _, .nil => .nil
  | _, _, .cons h r => .cons (Rep.mono s p h) (Reps.mono s p r)
end
theorem Reps.length : ∀ {vs : List V} {ds : List D}, Reps K Hb al vs ds → vs.length = ds.length
  | _, _, .nil => rfl
  | _, _, .cons _ r => by simp [Reps.length r]
theorem Reps.get : ∀ {vs : List V} {ds : List D} {i : Nat} {d : D}, Reps K Hb al vs ds → ds[i]? = some d → ∃ v, vs[i]? = some v ∧ Rep K Hb al v d
  | _, _, _, _, .nil, e => by simp at e
  | _, _, 0, _, .cons h _, e => by simp at e; subst e; exact ⟨_, rfl, h⟩
  | _, _, i + 1, d, .cons _ t, e => by
    obtain ⟨u, h1, h2⟩ := Reps.get (i := i) (d := d) t (by simpa using e)
    exact ⟨u, by simpa using h1, h2⟩
theorem Reps.getV : ∀ {vs : List V} {ds : List D} {i : Nat} {v : V}, Reps K Hb al vs ds → vs[i]? = some v → ∃ d, ds[i]? = some d ∧ Rep K Hb al v d
  | _, _, _, _, .nil, e => by simp at e
  | _, _, 0, _, .cons h _, e => by simp at e; subst e; exact ⟨_, rfl, h⟩
  | _, _, i + 1, d, .cons _ t, e => by
    obtain ⟨u, h1, h2⟩ := Reps.getV (i := i) (v := d) t (by simpa using e)
    exact ⟨u, by simpa using h1, h2⟩
theorem Reps.append : ∀ {vs us : List V} {ds es : List D}, Reps K Hb al vs ds → Reps K Hb al us es → Reps K Hb al (vs ++ us) (ds ++ es)
  | _, _, _, _, .nil, s => s
  | _, _, _, _, .cons h t, s => .cons h (Reps.append t s)
theorem Reps.set {v : V} {d : D} (h : Rep K Hb al v d) : ∀ {vs : List V} {ds : List D} (i : Nat), Reps K Hb al vs ds → Reps K Hb al (vs.set i v) (ds.set i d)
  | _, _, _, .nil => .nil
  | _, _, 0, .cons _ t => .cons h t
  | _, _, i + 1, .cons q t => .cons q (Reps.set h i t)
theorem Reps.take : ∀ {vs : List V} {ds : List D} (n : Nat), Reps K Hb al vs ds → Reps K Hb al (vs.take n) (ds.take n)
  | _, _, 0, _ => .nil
  | _, _, _ + 1, .nil => .nil
  | _, _, n + 1, .cons r t => .cons r (Reps.take n t)
theorem Reps.drop : ∀ {vs : List V} {ds : List D} (n : Nat), Reps K Hb al vs ds → Reps K Hb al (vs.drop n) (ds.drop n)
  | _, _, 0, r => r
  | _, _, _ + 1, .nil => .nil
  | _, _, n + 1, .cons _ t => Reps.drop n t
theorem Reps.reverse : ∀ {vs : List V} {ds : List D}, Reps K Hb al vs ds → Reps K Hb al vs.reverse ds.reverse
  | _, _, .nil => .nil
  | _, _, .cons h t => by
    rw [List.reverse_cons, List.reverse_cons]
    exact (Reps.reverse t).append (.cons h .nil)
theorem Reps.dropLast : ∀ {vs : List V} {ds : List D}, Reps K Hb al vs ds → Reps K Hb al vs.dropLast ds.dropLast := fun {vs ds} r => by
  rw [List.dropLast_eq_take, List.dropLast_eq_take, r.length]
  exact r.take _
theorem Reps.eraseIdx : ∀ {vs : List V} {ds : List D} (n : Nat), Reps K Hb al vs ds → Reps K Hb al (vs.eraseIdx n) (ds.eraseIdx n)
  | _, _, _, .nil => .nil
  | _, _, 0, .cons _ t => t
  | _, _, n + 1, .cons r t => .cons r (Reps.eraseIdx n t)
theorem Reps.ints : ∀ {vs : List V} (ns : List Int), Reps K Hb al vs (ns.map D.int) → vs = ns.map V.int
  | _, [], .nil => rfl
  | _, _ :: ns, .cons (.int _) t => by rw [List.map_cons, Reps.ints ns t]
theorem Reps.strs : ∀ {vs : List V} (ns : List Str), Reps K Hb al vs (ns.map D.str) → vs = ns.map V.str
  | _, [], .nil => rfl
  | _, _ :: ns, .cons (.str _) t => by rw [List.map_cons, Reps.strs ns t]
theorem Reps.bls : ∀ {vs : List V} (ns : List Bool), Reps K Hb al vs (ns.map D.bl) → vs = ns.map V.bl
  | _, [], .nil => rfl
  | _, _ :: ns, .cons (.bl _) t => by rw [List.map_cons, Reps.bls ns t]
theorem reps_ints (ns : List Int) : Reps K Hb al (ns.map V.int) (ns.map D.int) := by
  induction ns with
  | nil => exact .nil
  | cons n ns ih => exact .cons (.int _) ih
theorem reps_strs (ns : List Str) : Reps K Hb al (ns.map V.str) (ns.map D.str) := by
  induction ns with
  | nil => exact .nil
  | cons n ns ih => exact .cons (.str _) ih
end

/-- the oracle of a law: a list of three, the first a list of ints, the second a list of ints or a place, the third a count -/
def OrcAt (H : Hp) (a : Addr) (ph : List Addr) (n : Nat × Bool) : Prop :=
  ∃ (a0 : Addr) (xs : List Int) (y : V) (k : Int), H a = some (.lst [.ref a0, y, .int k]) ∧ H a0 = some (.lst (xs.map .int)) ∧ xs.length ≤ 100 ∧ 0 ≤ k ∧ k + n.1 ≤ 1099511627776 ∧
    ((n.2 = true ∧ ∃ a1 ys, y = .ref a1 ∧ ph = [a0, a1] ∧ a1 ≠ a0 ∧ (∀ x ∈ xs, 0 ≤ x) ∧ H a1 = some (.lst (ys.map V.int)) ∧ ys ≠ [] ∧ ys.length ≤ 100) ∨
     (n.2 = false ∧ ∃ j : Int, y = .int j ∧ ph = [a0] ∧ 0 ≤ j ∧ j + n.1 ≤ 1099511627776))
def CellAt (K : PySem.W.Frag) (n : Now) (a : Addr) : Cell → Prop
  | .gone => True
  | .lst ds => n.Hb a = none ∧ ∃ vs, n.H a = some (.lst vs) ∧ Reps K n.Hb n.al vs ds
  | .dct kvs => n.Hb a = none ∧ ∃ us, n.H a = some (.dK us) ∧ kvs.map (·.1) = us.map (·.1) ∧ Reps K n.Hb n.al (us.map (·.2)) (kvs.map (·.2))
  | .ins C fs => n.Hb a = none ∧ ∃ dx us, n.H a = some (.ins C dx us) ∧ fs.map (·.1) = us.map (·.1) ∧ Reps K n.Hb n.al (us.map (·.2)) (fs.map (·.2))
  | .orc k => n.Hb a = none ∧ OrcAt n.H a n.ph k
structure SR0 (K : PySem.W.Frag) (n : Now) (μ : Mu) : Prop where
  same : Same n.Hb n.H
  len : n.al.length = μ.length
  nd : n.al.Nodup
  cell : ∀ (i : Nat) a c, n.al[i]? = some a → μ[i]? = some c → CellAt K n a c
  alh : ∀ a ∈ n.al, n.H a ≠ none
  orc1 : ∀ (i j : Nat) a b, μ[i]? = some (.orc a) → μ[j]? = some (.orc b) → i = j
  phb : ∀ b ∈ n.ph, n.Hb b = none ∧ b ∉ n.al ∧ n.H b ≠ none
structure Step (n n' : Now) : Prop where
  same : Same n.Hb n'.Hb
  pre : n.al <+: n'.al
  newb : ∀ b o, n'.Hb b = some o → n.Hb b = some o ∨ n.H b = none ∨ b ∈ n.al
  newa : ∀ b ∈ n'.al, b ∈ n.al ∨ n.H b = none
  newp : ∀ b ∈ n'.ph, b ∈ n.ph ∨ n.H b = none
  keep : ∀ b o, n.H b = some o → b ∉ n.al → b ∉ n.ph → n'.H b = some o
  dom : ∀ b, n'.H b = none → n.H b = none
theorem Step.refl (n : Now) : Step n n := ⟨Same.refl _, List.prefix_refl _, fun _ _ h => .inl h, fun _ h => .inl h, fun _ h => .inl h, fun _ _ h _ _ => h, fun _ h => h⟩
theorem Step.trans {n n1 n2 : Now} (a : Step n n1) (b : Step n1 n2) : Step n n2 where
  same := a.same.trans b.same
  pre := a.pre.trans b.pre
  newb := fun c o h => by
    rcases b.newb c o h with h | h | h
    · exact a.newb c o h
    · exact .inr (.inl (a.dom c h))
    · rcases a.newa c h with h | h
      · exact .inr (.inr h)
      · exact .inr (.inl h)
  newa := fun c h => by
    rcases b.newa c h with h | h
    · exact a.newa c h
    · exact .inr (a.dom c h)
  newp := fun c h => by
    rcases b.newp c h with h | h
    · exact a.newp c h
    · exact .inr (a.dom c h)
  keep := fun c o h h1 h2 => by
    refine b.keep c o (a.keep c o h h1 h2) (fun z => ?_) (fun z => ?_)
    · rcases a.newa c z with z | z
      · exact h1 z
      · rw [z] at h; cases h
    · rcases a.newp c z with z | z
      · exact h2 z
      · rw [z] at h; cases h
  dom := fun c h => a.dom c (b.dom c h)
theorem Step.rep {K : PySem.W.Frag} {n n' : Now} (s : Step n n') {v : V} {d : D} (h : Rep K n.Hb n.al v d) : Rep K n'.Hb n'.al v d := h.mono s.same s.pre
theorem Step.reps {K : PySem.W.Frag} {n n' : Now} (s : Step n n') {v : List V} {d : List D} (h : Reps K n.Hb n.al v d) : Reps K n'.Hb n'.al v d := h.mono s.same s.pre
/-- the slots -/
structure GR (K : PySem.W.Frag) (n : Now) (Γ : Gam) (σ : St) : Prop where
  len : Γ.length = σ.length
  at_ : ∀ (i : Nat) d, Γ[i]? = some (some d) → ∃ v, σ[i]? = some (some v) ∧ Rep K n.Hb n.al v d
theorem GR.step {K : PySem.W.Frag} {n n' : Now} {Γ : Gam} {σ : St} (g : GR K n Γ σ) (s : Step n n') : GR K n' Γ σ :=
  ⟨g.len, fun i d h => let ⟨v, h1, h2⟩ := g.at_ i d h; ⟨v, h1, s.rep h2⟩⟩
theorem GR.set {K : PySem.W.Frag} {n : Now} {Γ : Gam} {σ : St} (g : GR K n Γ σ) {v : V} {d : D} (r : Rep K n.Hb n.al v d) (i : Nat) : GR K n (Γ.set i (some d)) (σ.set i (some v)) := by
  refine ⟨by simp [g.len], fun j e h => ?_⟩
  by_cases hj : i = j
  · subst hj
    by_cases hl : i < Γ.length
    · rw [List.getElem?_set_self hl] at h
      cases h
      exact ⟨v, by rw [List.getElem?_set_self (by rw [← g.len]; exact hl)], r⟩
    · rw [List.getElem?_eq_none (by simp; omega)] at h; cases h
  · rw [List.getElem?_set_ne hj] at h ⊢
    exact g.at_ j e h
/-- an exception: its class and its own fields -/
structure Exn where
  C : Addr
  fs : List (Str × D)
def ExR (K : PySem.W.Frag) (n : Now) (cls : Value) (dd : Option Addr) (x : Exn) : Prop :=
  cls = .ref x.C ∧ ∃ a us, dd = some a ∧ n.H a = some (.xd us) ∧ (∀ f, us.lookup f = none ↔ x.fs.lookup f = none) ∧ ∀ f v, us.lookup f = some v → ∃ d, x.fs.lookup f = some d ∧ Rep K n.Hb n.al v d

abbrev DTE := Gam → Mu → (D → Mu → Prop) → (Exn → Mu → Prop) → Prop
abbrev DTT := Gam → Mu → (Bool → Mu → Prop) → (Exn → Mu → Prop) → Prop
abbrev DTA := Gam → Mu → (List D → Mu → Prop) → (Exn → Mu → Prop) → Prop
structure DEnds where
  nx : Gam → Mu → Prop
  rt : D → Mu → Prop
  bk : Gam → Mu → Prop := fun _ _ => False
  ct : Gam → Mu → Prop := fun _ _ => False
  ex : Exn → Gam → Mu → Prop
abbrev DTS := DEnds → Gam → Mu → Prop
abbrev DSp := List D → Mu → (D → Mu → Prop) → (Exn → Mu → Prop) → Prop

section
variable (K : PySem.W.Frag) (W : WX)
/-- how what is wanted of an exception at the deep level reaches the layer's wish -/
def XLink (n : Now) (Γ : Gam) (σ : St) (Ed : Exn → Mu → Prop) : Prop := ∀ n' cls dd x μ', Step n n' → SR0 K n' μ' → ExR K n' cls dd x → Ed x μ' → W cls dd σ n'.H
def lift (f : DTE) : TE := fun σ H Q => ∃ n Γ μ Qd Ed, n.H = H ∧ SR0 K n μ ∧ GR K n Γ σ ∧ f Γ μ Qd Ed ∧
  (∀ n' v d μ', Step n n' → SR0 K n' μ' → Rep K n'.Hb n'.al v d → Qd d μ' → Q v n'.H) ∧ XLink K W n Γ σ Ed
def liftT (f : DTT) : TT := fun σ H Q => ∃ n Γ μ Qd Ed, n.H = H ∧ SR0 K n μ ∧ GR K n Γ σ ∧ f Γ μ Qd Ed ∧
  (∀ n' b μ', Step n n' → SR0 K n' μ' → Qd b μ' → Q b n'.H) ∧ XLink K W n Γ σ Ed
def liftA (f : DTA) : TA := fun σ H Q => ∃ n Γ μ Qd Ed, n.H = H ∧ SR0 K n μ ∧ GR K n Γ σ ∧ f Γ μ Qd Ed ∧
  (∀ n' v d μ', Step n n' → SR0 K n' μ' → Reps K n'.Hb n'.al v d → Qd d μ' → Q v n'.H) ∧ XLink K W n Γ σ Ed
structure Links (A : Now) (Dd : DEnds) (Dn : Ends) : Prop where
  nx : ∀ n Γ σ μ, Step A n → SR0 K n μ → GR K n Γ σ → Dd.nx Γ μ → Dn.nx σ n.H
  bk : ∀ n Γ σ μ, Step A n → SR0 K n μ → GR K n Γ σ → Dd.bk Γ μ → Dn.bk σ n.H
  ct : ∀ n Γ σ μ, Step A n → SR0 K n μ → GR K n Γ σ → Dd.ct Γ μ → Dn.ct σ n.H
  rt : ∀ n v d μ, Step A n → SR0 K n μ → Rep K n.Hb n.al v d → Dd.rt d μ → Dn.rt v n.H
  ex : ∀ n Γ σ μ cls dd x, Step A n → SR0 K n μ → GR K n Γ σ → ExR K n cls dd x → Dd.ex x Γ μ → W cls dd σ n.H
def liftS (T : DTS) : TS := fun Dn σ H => ∃ A n Γ μ Dd, n.H = H ∧ Step A n ∧ SR0 K n μ ∧ GR K n Γ σ ∧ T Dd Γ μ ∧ Links K W A Dd Dn
end
abbrev DE (X : Cx) (W : WX) (e : Expr) (f : DTE) : Prop := PE X e (lift X.K W f)
abbrev DT (X : Cx) (W : WX) (e : Expr) (f : DTT) : Prop := PT X e (liftT X.K W f)
abbrev DA (X : Cx) (W : WX) (es : List Expr) (f : DTA) : Prop := PA X es (liftA X.K W f)
abbrev DS (X : Cx) (W : WX) (st : Stmt) (T : DTS) : Prop := PS X st (liftS X.K W T)
abbrev DSs (X : Cx) (W : WX) (st : List Stmt) (T : DTS) : Prop := PSs X st (liftS X.K W T)
section
variable {X : Cx} {e : Expr} {es : List Expr} {st : Stmt} {sts : List Stmt}
theorem PE.imp {t t' : TE} (h : PE X e t) (hi : ∀ σ H Q, t' σ H Q → t σ H Q) : PE X e t' := ⟨fun pins s σ H Q I q => h.run pins s σ H Q I (hi _ _ _ q)⟩
theorem PT.imp {t t' : TT} (h : PT X e t) (hi : ∀ σ H Q, t' σ H Q → t σ H Q) : PT X e t' := ⟨fun pins s σ H Q I q => h.run pins s σ H Q I (hi _ _ _ q)⟩
theorem PA.imp {t t' : TA} (h : PA X es t) (hi : ∀ σ H Q, t' σ H Q → t σ H Q) : PA X es t' := ⟨fun pos pins s σ H Q I q => h.run pos pins s σ H Q I (hi _ _ _ q)⟩
theorem PS.imp {t t' : TS} (h : PS X st t) (hi : ∀ Dn σ H, t' Dn σ H → t Dn σ H) : PS X st t' := ⟨fun pins s σ H Q I q => h.run pins s σ H Q I (hi _ _ _ q)⟩
theorem PSs.imp {t t' : TS} (h : PSs X sts t) (hi : ∀ Dn σ H, t' Dn σ H → t Dn σ H) : PSs X sts t' := ⟨fun pins s σ H Q I q => h.run pins s σ H Q I (hi _ _ _ q)⟩
end
theorem XLink.step {K : PySem.W.Frag} {W : WX} {n n' : Now} {Γ : Gam} {σ : St} {Ed : Exn → Mu → Prop} (x : XLink K W n Γ σ Ed) (s : Step n n') : XLink K W n' Γ σ Ed :=
  fun n2 cls dd y μ s2 h1 h2 h3 => x n2 cls dd y μ (s.trans s2) h1 h2 h3
end DV

namespace DV
open PySem L2
section
variable {K : PySem.W.Frag} {n n' : Now} {μ : Mu} {a p : Addr} {o : HO}
theorem OrcAt.grow {H H' : Hp} {a : Addr} {ph : List Addr} {k : Nat × Bool} (h : OrcAt H a ph k) (ha : H' a = H a) (hp : ∀ b ∈ ph, H' b = H b) : OrcAt H' a ph k := by
  obtain ⟨a0, xs, y, j, h1, h2, hl, hj, hk, hc⟩ := h
  rcases hc with ⟨hv, a1, ys, e1, e2, e3, e4, e5, e6, e7⟩ | ⟨hv, i, e1, e2, e3, e4⟩
  · subst e2
    exact ⟨a0, xs, y, j, ha.trans h1, (hp a0 (by simp)).trans h2, hl, hj, hk, .inl ⟨hv, a1, ys, e1, rfl, e3, e4, (hp a1 (by simp)).trans e5, e6, e7⟩⟩
  · subst e2
    exact ⟨a0, xs, y, j, ha.trans h1, (hp a0 (by simp)).trans h2, hl, hj, hk, .inr ⟨hv, i, e1, rfl, e3, e4⟩⟩
theorem CellAt.grow {c : Cell} (h : CellAt K n a c) (ha : n'.H a = n.H a) (hb : n.Hb a = none → n'.Hb a = none) (s : Same n.Hb n'.Hb) (pr : n.al <+: n'.al) (hph : n'.ph = n.ph) (hp : ∀ b ∈ n.ph, n'.H b = n.H b) : CellAt K n' a c := by
  cases c with
  | gone => trivial
  | lst ds => obtain ⟨h0, vs, h1, h2⟩ := h; exact ⟨hb h0, vs, ha.trans h1, h2.mono s pr⟩
  | dct kvs => obtain ⟨h0, vs, h1, h2, h3⟩ := h; exact ⟨hb h0, vs, ha.trans h1, h2, h3.mono s pr⟩
  | ins C fs => obtain ⟨h0, dx, vs, h1, h2, h3⟩ := h; exact ⟨hb h0, dx, vs, ha.trans h1, h2, h3.mono s pr⟩
  | orc k => obtain ⟨h0, h1⟩ := h; exact ⟨hb h0, by rw [hph]; exact h1.grow ha hp⟩
theorem SR0.hb (s : SR0 K n μ) (h : n.H p = none) : n.Hb p = none := s.same.free h
theorem SR0.nal (s : SR0 K n μ) (h : n.H p = none) : p ∉ n.al := fun z => s.alh p z h
theorem SR0.nph (s : SR0 K n μ) (h : n.H p = none) : p ∉ n.ph := fun z => (s.phb p z).2.2 h
/-- a new object, fixed for ever -/
def Now.fix (n : Now) (p : Addr) (o : HO) : Now := ⟨upd n.Hb p o, upd n.H p o, n.al, n.ph⟩
/-- a new object beside -/
def Now.more (n : Now) (p : Addr) (o : HO) : Now := ⟨n.Hb, upd n.H p o, n.al, n.ph⟩
/-- a new cell -/
def Now.cell (n : Now) (p : Addr) (o : HO) : Now := ⟨n.Hb, upd n.H p o, n.al ++ [p], n.ph⟩
theorem same_upd {H : Hp} (h : H p = none) : Same H (upd H p o) := fun b u e => by rw [upd_ne (ne_of_none e h)]; exact e
theorem same_upd2 {H H' : Hp} (s : Same H H') : Same (upd H p o) (upd H' p o) := fun b u e => by
  by_cases hb : b = p
  · subst hb; rw [upd_same] at e ⊢; exact e
  · rw [upd_ne hb] at e ⊢; exact s _ _ e
theorem SR0.fix (s : SR0 K n μ) (h : n.H p = none) : SR0 K (n.fix p o) μ := by
  have hb := s.hb h
  refine ⟨same_upd2 s.same, s.len, s.nd, fun i a c e1 e2 => ?_, fun a ha => ?_, s.orc1, fun b hb' => ?_⟩
  · have hne : a ≠ p := fun z => s.nal h (z ▸ List.mem_of_getElem? e1)
    exact (s.cell i a c e1 e2).grow (n' := n.fix p o) (upd_ne hne) (fun z => (upd_ne hne).trans z) (same_upd hb) (List.prefix_refl _) rfl fun b hb' => upd_ne fun z => s.nph h (z ▸ hb')
  · have hne : a ≠ p := fun z => s.nal h (z ▸ ha)
    show upd n.H p o a ≠ none
    rw [upd_ne hne]; exact s.alh a ha
  · have hne : b ≠ p := fun z => s.nph h (z ▸ hb')
    obtain ⟨h1, h2, h3⟩ := s.phb b hb'
    exact ⟨(upd_ne hne).trans h1, h2, by show upd n.H p o b ≠ none; rw [upd_ne hne]; exact h3⟩
theorem Step.fix (s : SR0 K n μ) (h : n.H p = none) : Step n (n.fix p o) where
  same := same_upd (s.hb h)
  pre := List.prefix_refl _
  newb := fun b u e => by
    by_cases hb : b = p
    · subst hb; exact .inr (.inl h)
    · exact .inl (by rw [← e]; exact (upd_ne hb).symm)
  newa := fun b h => .inl h
  newp := fun b h => .inl h
  keep := fun b u e _ _ => by show upd n.H p o b = _; rw [upd_ne (ne_of_none e h)]; exact e
  dom := fun b e => by
    by_cases hb : b = p
    · subst hb; exact h
    · rw [← e]; exact (upd_ne hb).symm
theorem SR0.more (s : SR0 K n μ) (h : n.H p = none) : SR0 K (n.more p o) μ := by
  refine ⟨s.same.trans (same_upd h), s.len, s.nd, fun i a c e1 e2 => ?_, fun a ha => ?_, s.orc1, fun b hb' => ?_⟩
  · have hne : a ≠ p := fun z => s.nal h (z ▸ List.mem_of_getElem? e1)
    exact (s.cell i a c e1 e2).grow (n' := n.more p o) (upd_ne hne) (fun z => z) (Same.refl _) (List.prefix_refl _) rfl fun b hb' => upd_ne fun z => s.nph h (z ▸ hb')
  · have hne : a ≠ p := fun z => s.nal h (z ▸ ha)
    show upd n.H p o a ≠ none
    rw [upd_ne hne]; exact s.alh a ha
  · have hne : b ≠ p := fun z => s.nph h (z ▸ hb')
    obtain ⟨h1, h2, h3⟩ := s.phb b hb'
    exact ⟨h1, h2, by show upd n.H p o b ≠ none; rw [upd_ne hne]; exact h3⟩
theorem Step.more (h : n.H p = none) : Step n (n.more p o) where
  same := Same.refl _
  pre := List.prefix_refl _
  newb := fun b u e => .inl e
  newa := fun b h => .inl h
  newp := fun b h => .inl h
  keep := fun b u e _ _ => by show upd n.H p o b = _; rw [upd_ne (ne_of_none e h)]; exact e
  dom := fun b e => by
    by_cases hb : b = p
    · subst hb; exact h
    · rw [← e]; exact (upd_ne hb).symm
theorem Step.cell (h : n.H p = none) : Step n (n.cell p o) where
  same := Same.refl _
  pre := List.prefix_append _ _
  newb := fun b u e => .inl e
  newa := fun b hb => by
    rcases List.mem_append.mp hb with z | z
    · exact .inl z
    · rw [List.mem_singleton.mp z]; exact .inr h
  newp := fun b h => .inl h
  keep := fun b u e _ _ => by show upd n.H p o b = _; rw [upd_ne (ne_of_none e h)]; exact e
  dom := fun b e => by
    by_cases hb : b = p
    · subst hb; exact h
    · rw [← e]; exact (upd_ne hb).symm
theorem SR0.cellN (s : SR0 K n μ) (h : n.H p = none) {c : Cell} (hc : CellAt K (n.cell p o) p c) (ho : ∀ k, c ≠ .orc k) : SR0 K (n.cell p o) (μ ++ [c]) := by
  refine ⟨s.same.trans (same_upd h), by show (n.al ++ [p]).length = _; simp [s.len], ?_, fun i a d e1 e2 => ?_, fun a ha => ?_, fun i j x y e1 e2 => ?_, fun b hb' => ?_⟩
  · show (n.al ++ [p]).Nodup
    rw [List.nodup_append]
    exact ⟨s.nd, by simp, fun a ha b hb z => by rw [List.mem_singleton.mp hb] at z; exact s.nal h (z ▸ ha)⟩
  · have e1' : (n.al ++ [p])[i]? = some a := e1
    by_cases hi : i < n.al.length
    · rw [List.getElem?_append_left hi] at e1'
      rw [List.getElem?_append_left (by rw [← s.len]; exact hi)] at e2
      have hne : a ≠ p := fun z => s.nal h (z ▸ List.mem_of_getElem? e1')
      exact (s.cell i a d e1' e2).grow (n' := n.cell p o) (upd_ne hne) (fun z => z) (Same.refl _) (List.prefix_append _ _) rfl fun b hb' => upd_ne fun z => s.nph h (z ▸ hb')
    · rw [List.getElem?_append_right (by omega)] at e1'
      rw [List.getElem?_append_right (by rw [← s.len]; omega), ← s.len] at e2
      have hz : i - n.al.length = 0 := by
        have := (List.getElem?_eq_some_iff.mp e1').1
        simp at this; omega
      rw [hz] at e1' e2
      simp at e1' e2
      subst e1'; subst e2
      exact hc
  · rcases List.mem_append.mp ha with z | z
    · have hne : a ≠ p := fun y => s.nal h (y ▸ z)
      show upd n.H p o a ≠ none
      rw [upd_ne hne]; exact s.alh a z
    · rw [List.mem_singleton.mp z]
      show upd n.H p o p ≠ none
      rw [upd_same]; simp
  · have q : ∀ (i : Nat) x, (μ ++ [c])[i]? = some (.orc x) → μ[i]? = some (.orc x) := fun i x e => by
      by_cases hi : i < μ.length
      · rw [List.getElem?_append_left hi] at e; exact e
      · rw [List.getElem?_append_right (by omega)] at e
        have hz : i - μ.length = 0 := by
          have := (List.getElem?_eq_some_iff.mp e).1
          simp at this; omega
        rw [hz] at e; simp at e
        exact absurd e (ho x)
    exact s.orc1 i j x y (q i x e1) (q j y e2)
  · have hne : b ≠ p := fun z => s.nph h (z ▸ hb')
    obtain ⟨h1, h2, h3⟩ := s.phb b hb'
    refine ⟨h1, fun z => ?_, by show upd n.H p o b ≠ none; rw [upd_ne hne]; exact h3⟩
    rcases List.mem_append.mp z with z | z
    · exact h2 z
    · exact hne (List.mem_singleton.mp z)
theorem nodup_get {l : List Addr} (h : l.Nodup) {i j : Nat} {a : Addr} (h1 : l[i]? = some a) (h2 : l[j]? = some a) : i = j := by
  obtain ⟨p1, q1⟩ := List.getElem?_eq_some_iff.mp h1
  obtain ⟨p2, q2⟩ := List.getElem?_eq_some_iff.mp h2
  exact (List.getElem_inj h).mp (q1.trans q2.symm)
/-- a cell is written -/
theorem SR0.write (s : SR0 K n μ) {i : Nat} (hi : n.al[i]? = some a) (hb : n.Hb a = none) {c : Cell} (hc : CellAt K (n.more a o) a c) (ho : ∀ k, c ≠ .orc k) : SR0 K (n.more a o) (μ.set i c) := by
  refine ⟨fun b u e => ?_, by rw [List.length_set]; exact s.len, s.nd, fun j b d e1 e2 => ?_, fun b ha => ?_, fun j k x y e1 e2 => ?_, fun b hb' => ?_⟩
  · show upd n.H a o b = _
    rw [upd_ne (ne_of_none e hb)]; exact s.same _ _ e
  · have e1' : n.al[j]? = some b := e1
    by_cases hj : i = j
    · subst hj
      rw [hi] at e1'; cases e1'
      have hl : i < μ.length := by rw [← s.len]; exact (List.getElem?_eq_some_iff.mp hi).1
      rw [List.getElem?_set_self hl] at e2; cases e2
      exact hc
    · rw [List.getElem?_set_ne hj] at e2
      have hne : b ≠ a := fun z => hj (nodup_get s.nd hi (z ▸ e1'))
      exact (s.cell j b d e1' e2).grow (n' := n.more a o) (upd_ne hne) (fun z => z) (Same.refl _) (List.prefix_refl _) rfl fun b hb' => upd_ne fun z => (s.phb b hb').2.1 (z ▸ List.mem_of_getElem? hi)
  · show upd n.H a o b ≠ none
    by_cases hne : b = a
    · subst hne; rw [upd_same]; simp
    · rw [upd_ne hne]; exact s.alh b ha
  · have q : ∀ (j : Nat) x, (μ.set i c)[j]? = some (.orc x) → μ[j]? = some (.orc x) := fun j x e => by
      by_cases hj : i = j
      · subst hj
        have hl : i < μ.length := by rw [← s.len]; exact (List.getElem?_eq_some_iff.mp hi).1
        rw [List.getElem?_set_self hl] at e; cases e
        exact absurd rfl (ho x)
      · rw [List.getElem?_set_ne hj] at e; exact e
    exact s.orc1 j k x y (q j x e1) (q k y e2)
  · obtain ⟨h1, h2, h3⟩ := s.phb b hb'
    have hne : b ≠ a := fun z => h2 (z ▸ List.mem_of_getElem? hi)
    exact ⟨h1, h2, by show upd n.H a o b ≠ none; rw [upd_ne hne]; exact h3⟩
theorem Step.write {i : Nat} (hi : n.al[i]? = some a) : Step n (n.more a o) where
  same := Same.refl _
  pre := List.prefix_refl _
  newb := fun b u e => .inl e
  newa := fun b h => .inl h
  newp := fun b h => .inl h
  keep := fun b u e h1 _ => by
    show upd n.H a o b = _
    rw [upd_ne (show b ≠ a from fun z => h1 (z ▸ List.mem_of_getElem? hi))]; exact e
  dom := fun b e => by
    by_cases hb : b = a
    · subst hb; rw [show (n.more b o).H b = some o from upd_same] at e; cases e
    · rw [← e]; exact (upd_ne hb).symm
end
/-! ### what is seen of a value: fixed, or the cell as it stands -/
def lk (μ : Mu) : D → D
  | .ref l => match μ[l]? with
    | some (.lst xs) => .lst xs
    | some (.dct k) => .dct k
    | some (.ins C fs) => .ins C fs
    | _ => .ref l
  | d => d
section
variable {K : PySem.W.Frag} {n : Now} {μ : Mu} {v : V} {d : D}
theorem sq_same {H H' : Hp} {a : Addr} {xs : List V} (s : Same H H') (h : SqL K H a xs) : SqL K H' a xs := s.seq h
theorem lk_ref {l : Nat} {e : D} (h : lk μ (.ref l) = e) (hne : e ≠ .ref l) : (∃ xs, μ[l]? = some (.lst xs) ∧ e = .lst xs) ∨ (∃ xs, μ[l]? = some (.dct xs) ∧ e = .dct xs) ∨ ∃ C fs, μ[l]? = some (.ins C fs) ∧ e = .ins C fs := by
  unfold lk at h
  dsimp only at h
  split at h
  · exact .inl ⟨_, by assumption, h.symm⟩
  · exact .inr (.inl ⟨_, by assumption, h.symm⟩)
  · exact .inr (.inr ⟨_, _, by assumption, h.symm⟩)
  · exact absurd h.symm hne
theorem see_lst {ds : List D} (s : SR0 K n μ) (r : Rep K n.Hb n.al v d) (h : lk μ d = .lst ds) : ∃ a vs, v = .ref a ∧ n.H a = some (.lst vs) ∧ Reps K n.Hb n.al vs ds := by
  cases r with
  | ref hl =>
    rcases lk_ref h (by simp) with ⟨xs, e, q⟩ | ⟨xs, e, q⟩ | ⟨C, fs, e, q⟩
    · cases q
      obtain ⟨_, vs, h1, h2⟩ := s.cell _ _ _ hl e
      exact ⟨_, vs, rfl, h1, h2⟩
    · cases q
    · cases q
  | lst hq hr => cases h; exact ⟨_, _, rfl, s.same _ _ hq, hr⟩
  | _ => cases h
theorem see_tup {ds : List D} (s : SR0 K n μ) (r : Rep K n.Hb n.al v d) (h : lk μ d = .tup ds) : ∃ a vs, v = .ref a ∧ n.H a = some (.tup vs) ∧ n.Hb a = some (.tup vs) ∧ Reps K n.Hb n.al vs ds := by
  cases r with
  | ref hl => rcases lk_ref h (by simp) with ⟨xs, e, q⟩ | ⟨xs, e, q⟩ | ⟨C, fs, e, q⟩ <;> cases q
  | tup hq hr => cases h; exact ⟨_, _, rfl, s.same _ _ hq, hq, hr⟩
  | _ => cases h
theorem see_dct {kvs : List (Key × D)} (s : SR0 K n μ) (r : Rep K n.Hb n.al v d) (h : lk μ d = .dct kvs) : ∃ a us, v = .ref a ∧ n.H a = some (.dK us) ∧ kvs.map (·.1) = us.map (·.1) ∧ Reps K n.Hb n.al (us.map (·.2)) (kvs.map (·.2)) := by
  cases r with
  | ref hl =>
    rcases lk_ref h (by simp) with ⟨xs, e, q⟩ | ⟨xs, e, q⟩ | ⟨C, fs, e, q⟩
    · cases q
    · cases q
      obtain ⟨_, vs, h1, h2, h3⟩ := s.cell _ _ _ hl e
      exact ⟨_, vs, rfl, h1, h2, h3⟩
    · cases q
  | dct hq hk hr =>
    cases h
    subst hk
    have hl := hr.length
    rw [List.length_map] at hl
    rw [List.map_fst_zip (by rw [List.length_map]; omega), List.map_snd_zip (by rw [List.length_map]; omega)]
    exact ⟨_, _, rfl, s.same _ _ hq, rfl, hr⟩
  | _ => cases h
theorem see_ins {C : Addr} {fs : List (Str × D)} (s : SR0 K n μ) (r : Rep K n.Hb n.al v d) (h : lk μ d = .ins C fs) : ∃ a dx us, v = .ref a ∧ n.H a = some (.ins C dx us) ∧ fs.map (·.1) = us.map (·.1) ∧ Reps K n.Hb n.al (us.map (·.2)) (fs.map (·.2)) := by
  cases r with
  | ref hl =>
    rcases lk_ref h (by simp) with ⟨xs, e, q⟩ | ⟨xs, e, q⟩ | ⟨C, fs, e, q⟩
    · cases q
    · cases q
    · cases q
      obtain ⟨_, dx, vs, h1, h2, h3⟩ := s.cell _ _ _ hl e
      exact ⟨_, dx, vs, rfl, h1, h2, h3⟩
  | ins hq hk hr =>
    cases h
    subst hk
    have hl := hr.length
    rw [List.length_map] at hl
    rw [List.map_fst_zip (by rw [List.length_map]; omega), List.map_snd_zip (by rw [List.length_map]; omega)]
    exact ⟨_, _, _, rfl, s.same _ _ hq, rfl, hr⟩
  | _ => cases h
end
end DV

namespace DV
open PySem L2
def dVar (i : Nat) : DTE := fun Γ μ Q _ => match Γ[i]? with
  | some (some d) => Q d μ
  | _ => False
def dC (d : D) : DTE := fun _ μ Q _ => Q d μ
def LV (K : PySem.W.Frag) (n : Now) (Qd : D → Mu → Prop) (Q : VK) : Prop := ∀ n' v d μ', Step n n' → SR0 K n' μ' → Rep K n'.Hb n'.al v d → Qd d μ' → Q v n'.H
theorem LV.now {K : PySem.W.Frag} {n : Now} {Qd : D → Mu → Prop} {Q : VK} (l : LV K n Qd Q) {μ : Mu} (s : SR0 K n μ) {v : V} {d : D} (r : Rep K n.Hb n.al v d) (q : Qd d μ) : Q v n.H := l n v d μ (Step.refl n) s r q
theorem LV.step {K : PySem.W.Frag} {n n' : Now} {Qd : D → Mu → Prop} {Q : VK} (l : LV K n Qd Q) (s : Step n n') : LV K n' Qd Q := fun n2 v d μ s2 => l n2 v d μ (s.trans s2)
/-- a new object, fixed -/
theorem LV.fixed {K : PySem.W.Frag} {n : Now} {Qd : D → Mu → Prop} {Q : VK} (l : LV K n Qd Q) {μ : Mu} (s : SR0 K n μ) {p : Addr} {o : HO} {d : D} (hp : n.H p = none) (r : Rep K (upd n.Hb p o) n.al (.ref p) d) (q : Qd d μ) : Q (.ref p) (upd n.H p o) :=
  l (n.fix p o) _ d μ (Step.fix s hp) (s.fix hp) r q
abbrev G2 := D → D → Mu → (D → Mu → Prop) → Prop
abbrev G1 := D → Mu → (D → Mu → Prop) → Prop
abbrev GN := List D → Mu → (D → Mu → Prop) → Prop
def Op2 (K : PySem.W.Frag) (r : R2) (g : G2) : Prop := ∀ n μ x y dx dy Qd (Q : VK), SR0 K n μ → Rep K n.Hb n.al x dx → Rep K n.Hb n.al y dy → g dx dy μ Qd → LV K n Qd Q → r x y n.H Q
def Op1 (K : PySem.W.Frag) (r : V → Hp → VK → Prop) (g : G1) : Prop := ∀ n μ x dx Qd (Q : VK), SR0 K n μ → Rep K n.Hb n.al x dx → g dx μ Qd → LV K n Qd Q → r x n.H Q
def OpN (K : PySem.W.Frag) (r : List V → Hp → VK → Prop) (g : GN) : Prop := ∀ n μ xs ds Qd (Q : VK), SR0 K n μ → Reps K n.Hb n.al xs ds → g ds μ Qd → LV K n Qd Q → r xs n.H Q
def OpM (K : PySem.W.Frag) (r : V → List V → Hp → VK → Prop) (g : D → List D → Mu → (D → Mu → Prop) → Prop) : Prop := ∀ n μ x xs d ds Qd (Q : VK), SR0 K n μ → Rep K n.Hb n.al x d → Reps K n.Hb n.al xs ds → g d ds μ Qd → LV K n Qd Q → r x xs n.H Q
def dBin (g : G2) (fa fb : DTE) : DTE := fun Γ μ Q E => fa Γ μ (fun x μ1 => fb Γ μ1 (fun y μ2 => g x y μ2 Q) E) E
def dUn (g : G1) (fa : DTE) : DTE := fun Γ μ Q E => fa Γ μ (fun x μ1 => g x μ1 Q) E
def dNil : DTA := fun _ μ Q _ => Q [] μ
def dCons (fa : DTE) (fr : DTA) : DTA := fun Γ μ Q E => fa Γ μ (fun x μ1 => fr Γ μ1 (fun xs μ2 => Q (x :: xs) μ2) E) E
def dCall (g : GN) (fa : DTA) : DTE := fun Γ μ Q E => fa Γ μ (fun xs μ1 => g xs μ1 Q) E
def dTest (fa : DTE) : DTT := fun Γ μ Q E => fa Γ μ (fun x μ1 => match x with | .bl b => Q b μ1 | _ => False) E
def dOp (sp : DSp) (fa : DTA) : DTE := fun Γ μ Q E => fa Γ μ (fun xs μ1 => sp xs μ1 Q E) E
section
variable {X : Cx} {W : WX} {e a b c : Expr} {es : List Expr} {pos : Pos} {fa fb fc : DTE} {ft : DTT} {fr : DTA}
theorem de_var {i : Nat} (h : PE X e (tVar i)) : DE X W e (dVar i) := PE.imp h fun σ H Q ⟨n, Γ, μ, Qd, Ed, hH, sr, gr, h, hq, hx⟩ => by
  subst hH
  unfold dVar at h
  split at h
  · rename_i d e
    obtain ⟨v, h1, h2⟩ := gr.at_ i d e
    exact ⟨v, h1, hq n v d μ (Step.refl n) sr h2 h⟩
  · exact h.elim
theorem de_c {v : V} {d : D} (r : ∀ K Hb al, Rep K Hb al v d) (h : PE X e (tC v)) : DE X W e (dC d) := PE.imp h fun σ H Q ⟨n, Γ, μ, Qd, Ed, hH, sr, gr, h, hq, hx⟩ => by
  subst hH
  exact hq n v d μ (Step.refl n) sr (r _ _ _) h
theorem de_int {i : Int} (h : PE X e (tC (.int i))) : DE X W e (dC (.int i)) := de_c (fun _ _ _ => .int i) h
theorem de_bl {i : Bool} (h : PE X e (tC (.bl i))) : DE X W e (dC (.bl i)) := de_c (fun _ _ _ => .bl i) h
theorem de_str {i : Str} (h : PE X e (tC (.str i))) : DE X W e (dC (.str i)) := de_c (fun _ _ _ => .str i) h
theorem de_non (h : PE X e (tC .non)) : DE X W e (dC .non) := de_c (fun _ _ _ => .non) h
/-- from a part's reading to what follows -/
theorem lift_go {K : PySem.W.Frag} {n : Now} {Γ : Gam} {μ : Mu} {σ : St} {Qd : D → Mu → Prop} {Ed : Exn → Mu → Prop} {Q : VK} (sr : SR0 K n μ) (gr : GR K n Γ σ) (h : fa Γ μ Qd Ed) (hq : LV K n Qd Q) (hx : XLink K W n Γ σ Ed) : lift K W fa σ n.H Q :=
  ⟨n, Γ, μ, Qd, Ed, rfl, sr, gr, h, hq, hx⟩
theorem liftA_go {K : PySem.W.Frag} {n : Now} {Γ : Gam} {μ : Mu} {σ : St} {Qd : List D → Mu → Prop} {Ed : Exn → Mu → Prop} {Q : List V → Hp → Prop} (sr : SR0 K n μ) (gr : GR K n Γ σ) (h : fr Γ μ Qd Ed)
    (hq : ∀ n' v d μ', Step n n' → SR0 K n' μ' → Reps K n'.Hb n'.al v d → Qd d μ' → Q v n'.H) (hx : XLink K W n Γ σ Ed) : liftA K W fr σ n.H Q :=
  ⟨n, Γ, μ, Qd, Ed, rfl, sr, gr, h, hq, hx⟩
theorem liftT_go {K : PySem.W.Frag} {n : Now} {Γ : Gam} {μ : Mu} {σ : St} {Qd : Bool → Mu → Prop} {Ed : Exn → Mu → Prop} {Q : Bool → Hp → Prop} (sr : SR0 K n μ) (gr : GR K n Γ σ) (h : ft Γ μ Qd Ed)
    (hq : ∀ n' b μ', Step n n' → SR0 K n' μ' → Qd b μ' → Q b n'.H) (hx : XLink K W n Γ σ Ed) : liftT K W ft σ n.H Q :=
  ⟨n, Γ, μ, Qd, Ed, rfl, sr, gr, h, hq, hx⟩
theorem two {K : PySem.W.Frag} {r : R2} {g : G2} (hg : Op2 K r g) (σ : St) (H : Hp) (Q : VK) (h : lift K W (dBin g fa fb) σ H Q) : tOp r (lift K W fa) (lift K W fb) σ H Q := by
  obtain ⟨n, Γ, μ, Qd, Ed, hH, sr, gr, h, hq, hx⟩ := h
  subst hH
  refine lift_go sr gr h (fun n1 x dx μ1 s1 r1 p1 q1 => lift_go r1 (gr.step s1) q1 (fun n2 y dy μ2 s2 r2 p2 q2 => ?_) (hx.step s1)) hx
  exact hg n2 μ2 x y dx dy Qd Q r2 (s2.rep p1) p2 q2 (LV.step hq (s1.trans s2))
theorem de_op {op : Operator} {r : R2} {g : G2} (ho : OpR X (binaryOp op) r) (hg : Op2 X.K r g) (ha : DE X W a fa) (hb : DE X W b fb) : DE X W (.BinOp a op b pos) (dBin g fa fb) := PE.imp (pe_op ho ha hb) (two hg)
theorem de_cmp {op : CmpOp} {r : R2} {g : G2} (ho : OpR X (compareOp op) r) (hg : Op2 X.K r g) (ha : DE X W a fa) (hb : DE X W b fb) (hm : behindInMarks op b = false := by rfl) : DE X W (.Compare a [op] [b] pos) (dBin g fa fb) := PE.imp (pe_cmpR ho ha hb hm) (two hg)
theorem de_un {op : UnaryOp} {r : V → Hp → VK → Prop} {g : G1} (ho : UnR X (unaryOp op) r) (hg : Op1 X.K r g) (ha : DE X W a fa) : DE X W (.UnaryOp op a pos) (dUn g fa) := PE.imp (pe_un ho ha) fun σ H Q ⟨n, Γ, μ, Qd, Ed, hH, sr, gr, h, hq, hx⟩ => by
  subst hH
  exact lift_go sr gr h (fun n1 x dx μ1 s1 r1 p1 q1 => hg n1 μ1 x dx Qd Q r1 p1 q1 (LV.step hq s1)) hx
theorem de_ix {r : R2} {g : G2} (ho : IxR X r) (hg : Op2 X.K r g) (ha : DE X W a fa) (hb : DE X W b fb) (hs : PlainIx b := by exact fun _ _ => rfl) : DE X W (.Subscript a b pos) (dBin g fa fb) := PE.imp (pe_ix ho ha hb hs) (two hg)
/-! arguments -/
theorem da_nil : DA X W [] dNil := PA.imp pa_nil fun σ H Q ⟨n, Γ, μ, Qd, Ed, hH, sr, gr, h, hq, hx⟩ => by
  subst hH
  exact hq n [] [] μ (Step.refl n) sr .nil h
theorem da_cons (ha : DE X W e fa) (hr : DA X W es fr) (hs : starEach (e :: es) X.env = (false, eval e X.env) :: starEach es X.env := by rfl) : DA X W (e :: es) (dCons fa fr) := PA.imp (pa_cons ha hr hs) fun σ H Q ⟨n, Γ, μ, Qd, Ed, hH, sr, gr, h, hq, hx⟩ => by
  subst hH
  refine lift_go sr gr h (fun n1 x dx μ1 s1 r1 p1 q1 => liftA_go r1 (gr.step s1) q1 (fun n2 y dy μ2 s2 r2 p2 q2 => ?_) (hx.step s1)) hx
  exact hq n2 _ _ μ2 (s1.trans s2) r2 (.cons (s2.rep p1) p2) q2
/-! displays -/
def gLst : GN := fun ds μ Q => ds.length ≤ sizeLine ∧ Q (.lst ds) μ
def gTup : GN := fun ds μ Q => ds.length ≤ sizeLine ∧ Q (.tup ds) μ
/-- a list that will change: a cell -/
def gLstM : GN := fun ds μ Q => ds.length ≤ sizeLine ∧ Q (.ref μ.length) (μ ++ [.lst ds])
theorem nN {K : PySem.W.Frag} {r : List V → Hp → VK → Prop} {g : GN} (hg : OpN K r g) (σ : St) (H : Hp) (Q : VK) (h : lift K W (dCall g fr) σ H Q) : liftA K W fr σ H fun xs H1 => r xs H1 Q := by
  obtain ⟨n, Γ, μ, Qd, Ed, hH, sr, gr, h, hq, hx⟩ := h
  subst hH
  exact liftA_go sr gr h (fun n1 x dx μ1 s1 r1 p1 q1 => hg n1 μ1 x dx Qd Q r1 p1 q1 (LV.step hq s1)) hx
theorem rep_lst {K : PySem.W.Frag} {Hb : Hp} {al : List Addr} {p : Addr} {vs : List V} {ds : List D} (hp : Hb p = none) (r : Reps K Hb al vs ds) : Rep K (upd Hb p (.lst vs)) al (.ref p) (.lst ds) := .lst upd_same (r.mono (same_upd hp) (List.prefix_refl _))
theorem rep_tup {K : PySem.W.Frag} {Hb : Hp} {al : List Addr} {p : Addr} {vs : List V} {ds : List D} (hp : Hb p = none) (r : Reps K Hb al vs ds) : Rep K (upd Hb p (.tup vs)) al (.ref p) (.tup ds) := .tup upd_same (r.mono (same_upd hp) (List.prefix_refl _))
/-- a new list, as data or as a cell -/
theorem new_lst {K : PySem.W.Frag} {n : Now} {Qd : D → Mu → Prop} {Q : VK} (l : LV K n Qd Q) {μ : Mu} (s : SR0 K n μ) {p : Addr} {vs : List V} {ds : List D} (hp : n.H p = none) (r : Reps K n.Hb n.al vs ds) (q : Qd (.lst ds) μ) : Q (.ref p) (upd n.H p (.lst vs)) :=
  l.fixed s hp (rep_lst (s.hb hp) r) q
theorem new_tup {K : PySem.W.Frag} {n : Now} {Qd : D → Mu → Prop} {Q : VK} (l : LV K n Qd Q) {μ : Mu} (s : SR0 K n μ) {p : Addr} {vs : List V} {ds : List D} (hp : n.H p = none) (r : Reps K n.Hb n.al vs ds) (q : Qd (.tup ds) μ) : Q (.ref p) (upd n.H p (.tup vs)) :=
  l.fixed s hp (rep_tup (s.hb hp) r) q
theorem new_cell {K : PySem.W.Frag} {n : Now} {Qd : D → Mu → Prop} {Q : VK} (l : LV K n Qd Q) {μ : Mu} (s : SR0 K n μ) {p : Addr} {vs : List V} {ds : List D} (hp : n.H p = none) (r : Reps K n.Hb n.al vs ds) (q : Qd (.ref μ.length) (μ ++ [.lst ds])) : Q (.ref p) (upd n.H p (.lst vs)) := by
  refine l (n.cell p (.lst vs)) _ (.ref μ.length) (μ ++ [.lst ds]) (Step.cell hp) (s.cellN (c := .lst ds) hp ⟨s.hb hp, vs, upd_same, r.mono (Same.refl _) (List.prefix_append _ _)⟩ (fun k z => by cases z)) (.ref ?_) q
  show (n.al ++ [p])[μ.length]? = some p
  rw [← s.len]
  simp
theorem opn_lst {K : PySem.W.Frag} : OpN K (fun xs H Q => xs.length ≤ sizeLine ∧ ∀ p, H p = none → Q (.ref p) (upd H p (.lst xs))) gLst := fun n μ xs ds Qd Q s r h l => ⟨r.length ▸ h.1, fun p hp => new_lst l s hp r h.2⟩
theorem opn_lstM {K : PySem.W.Frag} : OpN K (fun xs H Q => xs.length ≤ sizeLine ∧ ∀ p, H p = none → Q (.ref p) (upd H p (.lst xs))) gLstM := fun n μ xs ds Qd Q s r h l => ⟨r.length ▸ h.1, fun p hp => new_cell l s hp r h.2⟩
theorem opn_tup {K : PySem.W.Frag} : OpN K (fun xs H Q => xs.length ≤ sizeLine ∧ ∀ p, H p = none → Q (.ref p) (upd H p (.tup xs))) gTup := fun n μ xs ds Qd Q s r h l => ⟨r.length ▸ h.1, fun p hp => new_tup l s hp r h.2⟩
theorem de_lst (h : DA X W es fr) : DE X W (.List es pos) (dCall gLst fr) := PE.imp (pe_lst h) fun σ H Q q => by
  have z := nN (opn_lst (K := X.K)) σ H Q q
  exact z
theorem de_lstM (h : DA X W es fr) : DE X W (.List es pos) (dCall gLstM fr) := PE.imp (pe_lst h) fun σ H Q q => by
  have z := nN (opn_lstM (K := X.K)) σ H Q q
  exact z
theorem de_tup {x1} (h : DA X W es fr) : DE X W (.Tuple es x1 pos) (dCall gTup fr) := PE.imp (pe_tup h) fun σ H Q q => by
  have z := nN (opn_tup (K := X.K)) σ H Q q
  exact z
/-! builtins by name -/
section
variable {x : Str} {id : String} {T : String} {r : List V → Hp → VK → Prop} {g : GN} {p : Pos}
theorem de_callB (hc : CallR X (.builtin id) r) (hg : OpN X.K r g) (hgl : Gl X x) (hm : X.mg x = none) (hv : bootBuiltins x = some (.builtin id)) (ha : DA X W (e :: es) fr) (hn : x ≠ "__name__" := by decide) (hdb : (x == ("__debug__" : Str)) = false := by decide)
    (he : starEach (e :: es) X.env = (false, eval e X.env) :: starEach es X.env := by rfl) (hpl : (backTo pos (starEach es X.env)).any (·.1) = false := by rfl) : DE X W (.Call (.Name x p) (e :: es) [] pos) (dCall g fr) :=
  PE.imp (pe_callB hc hgl hm hv ha hn hdb he hpl) fun σ H Q q => nN hg σ H Q q
theorem de_callTy (hc : CallR X (.type T) r) (hg : OpN X.K r g) (hgl : Gl X x) (hm : X.mg x = none) (hv : bootBuiltins x = some (.type T)) (ha : DA X W (e :: es) fr) (hn : x ≠ "__name__" := by decide) (hdb : (x == ("__debug__" : Str)) = false := by decide)
    (he : starEach (e :: es) X.env = (false, eval e X.env) :: starEach es X.env := by rfl) (hpl : (backTo pos (starEach es X.env)).any (·.1) = false := by rfl) : DE X W (.Call (.Name x p) (e :: es) [] pos) (dCall g fr) :=
  PE.imp (pe_callTy hc hgl hm hv ha hn hdb he hpl) fun σ H Q q => nN hg σ H Q q
end
/-! tests -/
theorem dt_val (h : DE X W e fa) (he : ∀ whole, isTrue e X.env whole = (do let v ← whole; standAt e.pos; holding [v] (truthy v)) := by intro _; rfl) : DT X W e (dTest fa) := PT.imp (pt_val h he) fun σ H Q ⟨n, Γ, μ, Qd, Ed, hH, sr, gr, h, hq, hx⟩ => by
  subst hH
  refine lift_go sr gr h (fun n1 x dx μ1 s1 r1 p1 q1 => ?_) hx
  cases p1 with
  | bl b => exact ⟨b, rfl, hq n1 b μ1 s1 r1 q1⟩
  | _ => exact q1.elim
def dAndT (ta tb : DTT) : DTT := fun Γ μ Q E => ta Γ μ (fun c μ1 => cond c (tb Γ μ1 Q E) (Q false μ1)) E
def dOrT (ta tb : DTT) : DTT := fun Γ μ Q E => ta Γ μ (fun c μ1 => cond c (Q true μ1) (tb Γ μ1 Q E)) E
def dNotT (ta : DTT) : DTT := fun Γ μ Q E => ta Γ μ (fun c μ1 => Q (!c) μ1) E
/-- and, or of values all but the last of which are True or False -/
def dAnd (ta tb : DTE) : DTE := fun Γ μ Q E => ta Γ μ (fun x μ1 => match x with | .bl c => cond c (tb Γ μ1 Q E) (Q (.bl false) μ1) | _ => False) E
def dOr (ta tb : DTE) : DTE := fun Γ μ Q E => ta Γ μ (fun x μ1 => match x with | .bl c => cond c (Q (.bl true) μ1) (tb Γ μ1 Q E) | _ => False) E
def dNot (ta : DTE) : DTE := fun Γ μ Q E => ta Γ μ (fun x μ1 => match x with | .bl c => Q (.bl (!c)) μ1 | _ => False) E
def dIfE (t : DTT) (ta tb : DTE) : DTE := fun Γ μ Q E => t Γ μ (fun c μ1 => cond c (ta Γ μ1 Q E) (tb Γ μ1 Q E)) E
theorem de_one {op} (h : DE X W a fa) : DE X W (.BoolOp op [a] pos) fa := pe_one h
theorem de_and {rest : List Expr} (ha : DE X W a fa) (hb : DE X W (.BoolOp .And (b :: rest) pos) fb) : DE X W (.BoolOp .And (a :: b :: rest) pos) (dAnd fa fb) := PE.imp (pe_and ha hb) fun σ H Q ⟨n, Γ, μ, Qd, Ed, hH, sr, gr, h, hq, hx⟩ => by
  subst hH
  refine lift_go sr gr h (fun n1 x dx μ1 s1 r1 p1 q1 => ?_) hx
  cases p1 with
  | bl c =>
    refine ⟨c, rfl, ?_⟩
    cases c with
    | true => exact iteT (lift_go r1 (gr.step s1) q1 (LV.step hq s1) (hx.step s1))
    | false => exact iteF (hq n1 _ _ μ1 s1 r1 (.bl false) q1)
  | _ => exact q1.elim
theorem de_or {rest : List Expr} (ha : DE X W a fa) (hb : DE X W (.BoolOp .Or (b :: rest) pos) fb) : DE X W (.BoolOp .Or (a :: b :: rest) pos) (dOr fa fb) := PE.imp (pe_or ha hb) fun σ H Q ⟨n, Γ, μ, Qd, Ed, hH, sr, gr, h, hq, hx⟩ => by
  subst hH
  refine lift_go sr gr h (fun n1 x dx μ1 s1 r1 p1 q1 => ?_) hx
  cases p1 with
  | bl c =>
    refine ⟨c, rfl, ?_⟩
    cases c with
    | true => exact iteT (hq n1 _ _ μ1 s1 r1 (.bl true) q1)
    | false => exact iteF (lift_go r1 (gr.step s1) q1 (LV.step hq s1) (hx.step s1))
  | _ => exact q1.elim
theorem de_not (ha : DE X W a fa) : DE X W (.UnaryOp .Not a pos) (dNot fa) := PE.imp (pe_not ha) fun σ H Q ⟨n, Γ, μ, Qd, Ed, hH, sr, gr, h, hq, hx⟩ => by
  subst hH
  refine lift_go sr gr h (fun n1 x dx μ1 s1 r1 p1 q1 => ?_) hx
  cases p1 with
  | bl c => exact ⟨c, rfl, hq n1 _ _ μ1 s1 r1 (.bl _) q1⟩
  | _ => exact q1.elim
theorem de_if (hc : DT X W c ft) (ha : DE X W a fa) (hb : DE X W b fb) : DE X W (.IfExp c a b pos) (dIfE ft fa fb) := PE.imp (pe_ifExp hc ha hb) fun σ H Q ⟨n, Γ, μ, Qd, Ed, hH, sr, gr, h, hq, hx⟩ => by
  subst hH
  refine liftT_go sr gr h (fun n1 x μ1 s1 r1 q1 => ?_) hx
  cases x with
  | true => exact iteT (lift_go r1 (gr.step s1) q1 (LV.step hq s1) (hx.step s1))
  | false => exact iteF (lift_go r1 (gr.step s1) q1 (LV.step hq s1) (hx.step s1))
theorem pw_and' {rest : List Expr} {ta tb : DTT} (ha : DT X W a ta) (hb : PW X (.BoolOp .And (b :: rest) pos) (liftT X.K W tb)) : PW X (.BoolOp .And (a :: b :: rest) pos) (liftT X.K W (dAndT ta tb)) := by
  have z := pw_and (pos := pos) ha hb
  refine ⟨fun whole pins s σ H Q I h => z.run whole pins s σ H Q I ?_⟩
  obtain ⟨n, Γ, μ, Qd, Ed, hH, sr, gr, h, hq, hx⟩ := h
  subst hH
  refine liftT_go sr gr h (fun n1 x μ1 s1 r1 q1 => ?_) hx
  cases x with
  | true => exact iteT (liftT_go r1 (gr.step s1) q1 (fun n2 b μ2 s2 => hq n2 b μ2 (s1.trans s2)) (hx.step s1))
  | false => exact iteF (hq n1 _ μ1 s1 r1 q1)
theorem pw_or' {rest : List Expr} {ta tb : DTT} (ha : DT X W a ta) (hb : PW X (.BoolOp .Or (b :: rest) pos) (liftT X.K W tb)) : PW X (.BoolOp .Or (a :: b :: rest) pos) (liftT X.K W (dOrT ta tb)) := by
  have z := pw_or (pos := pos) ha hb
  refine ⟨fun whole pins s σ H Q I h => z.run whole pins s σ H Q I ?_⟩
  obtain ⟨n, Γ, μ, Qd, Ed, hH, sr, gr, h, hq, hx⟩ := h
  subst hH
  refine liftT_go sr gr h (fun n1 x μ1 s1 r1 q1 => ?_) hx
  cases x with
  | true => exact iteT (hq n1 _ μ1 s1 r1 q1)
  | false => exact iteF (liftT_go r1 (gr.step s1) q1 (fun n2 b μ2 s2 => hq n2 b μ2 (s1.trans s2)) (hx.step s1))
theorem dt_not {ta : DTT} (ha : DT X W a ta) : DT X W (.UnaryOp .Not a pos) (dNotT ta) := PT.imp (pt_not ha) fun σ H Q ⟨n, Γ, μ, Qd, Ed, hH, sr, gr, h, hq, hx⟩ => by
  subst hH
  exact liftT_go sr gr h (fun n1 x μ1 s1 r1 q1 => hq n1 _ μ1 s1 r1 q1) hx
end
end DV

namespace DV
open PySem L2
/-! ### what has no reference in it -/
mutual
def D.pu : D → Bool
  | .ref _ => false
  | .lst xs => D.puL xs
  | .tup xs => D.puL xs
  | .dct kvs => D.puK kvs
  | .ins _ fs => D.puF fs
  | _ => true
def D.puL : List D → Bool
  | [] => true
  | x :: xs => x.pu && D.puL xs
def D.puK : List (Key × D) → Bool
  | [] => true
  | (_, x) :: xs => x.pu && D.puK xs
def D.puF : List (Str × D) → Bool
  | [] => true
  | (_, x) :: xs => x.pu && D.puF xs
end
theorem puL_iff : ∀ {xs : List D}, D.puL xs = true ↔ ∀ x ∈ xs, x.pu = true
  | [] => by simp [D.puL]
  | x :: xs => by simp [D.puL, puL_iff (xs := xs)]
theorem puK_eq : ∀ (xs : List (Key × D)), D.puK xs = D.puL (xs.map (·.2))
  | [] => rfl
  | (k, x) :: xs => by simp [D.puK, D.puL, puK_eq xs]
theorem puF_eq : ∀ (xs : List (Str × D)), D.puF xs = D.puL (xs.map (·.2))
  | [] => rfl
  | (k, x) :: xs => by simp [D.puF, D.puL, puF_eq xs]
def Cell.pu : Cell → Bool
  | .lst xs => D.puL xs
  | .dct kvs => D.puK kvs
  | .ins _ fs => D.puF fs
  | _ => true
section
variable {K : PySem.W.Frag} {Hb : Hp} {al al' : List Addr}
mutual
theorem Rep.any : ∀ {v : V} {d : D}, Rep K Hb al v d → d.pu = true → Rep K Hb al' v d
  | _, _, .non, _ => .non
  | _, _, .bl b, _ => .bl b
  | _, _, .int i, _ => .int i
  | _, _, .str x, _ => .str x
  | _, _, .ref h, q => by simp [D.pu] at q
  | _, _, .cls C, _ => .cls C
  | _, _, .scr h, _ => .scr h
  | _, _, .lst h r, q => .lst h (Reps.any r (by simpa [D.pu] using q))
  | _, _, .tup h r, q => .tup h (Reps.any r (by simpa [D.pu] using q))
  | _, _, .dct (us := us) (ks := ks) (ds := ds) h e r, q => .dct h e (Reps.any r (by
      have hl := r.length
      rw [List.length_map] at hl
      rw [D.pu, puK_eq, List.map_snd_zip (by rw [e, List.length_map]; omega)] at q
      exact q))
  | _, _, .ins (us := us) (ks := ks) (ds := ds) h e r, q => .ins h e (Reps.any r (by
      have hl := r.length
      rw [List.length_map] at hl
      rw [D.pu, puF_eq, List.map_snd_zip (by rw [e, List.length_map]; omega)] at q
      exact q))
theorem Reps.any : ∀ {vs : List V} {ds : List D}, Reps K Hb al vs ds → D.puL ds = true → Reps K Hb al' vs ds
  | _, _, .nil, _ => .nil
  | _, _, .cons h r, q => by
    simp [D.puL] at q
    exact .cons (Rep.any h q.1) (Reps.any r q.2)
end
/-- the references in data lie within the cells' list -/
def inAl (al al' : List Addr) (d : D) : Prop := ∀ K Hb v, Rep K Hb al' v d → Rep K Hb al v d
theorem take_get {l : List Addr} {n i : Nat} {a : Addr} (h : (l.take n)[i]? = some a) : l[i]? = some a := by
  rw [List.getElem?_take] at h
  split at h
  · exact h
  · cases h
mutual
/-- data that stood over a shorter list of cells -/
theorem Rep.back {K' : PySem.W.Frag} {Hb' : Hp} (p : al <+: al') : ∀ {v : V} {d : D} {v' : V}, Rep K Hb al v d → Rep K' Hb' al' v' d → Rep K' Hb' al v' d
  | _, _, _, .non, h => by cases h; exact .non
  | _, _, _, .bl b, h => by cases h; exact .bl b
  | _, _, _, .int b, h => by cases h; exact .int b
  | _, _, _, .str b, h => by cases h; exact .str b
  | _, _, _, .cls b, h => by cases h; exact .cls b
  | _, _, _, .scr b, h => by
    cases h with
    | scr h2 => exact .scr h2
  | _, _, _, .ref h1, h => by
    cases h with
    | ref h2 =>
      have := pre_get p h1
      rw [h2] at this; cases this
      exact .ref h1
  | _, _, _, .lst h1 r, h => by
    cases h with
    | lst h2 r2 => exact .lst h2 (Reps.back p r r2)
  | _, _, _, .tup h1 r, h => by
    cases h with
    | tup h2 r2 => exact .tup h2 (Reps.back p r r2)
  | _, _, _, .dct (us := us) (ks := ks) (ds := ds) h1 e1 r, h => by
    generalize hq : ks.zip ds = zs at h
    cases h with
    | dct h2 e2 r2 =>
      rename_i us2 ks2 ds2
      have l1 := r.length
      have l2 := r2.length
      rw [List.length_map] at l1 l2
      have e : ds = ds2 := by
        have z := congrArg (List.map Prod.snd) hq
        rw [List.map_snd_zip (by rw [e1, List.length_map]; omega), List.map_snd_zip (by rw [e2, List.length_map]; omega)] at z
        exact z
      exact .dct h2 e2 (Reps.back p r (e ▸ r2) |> fun q => e ▸ q)
  | _, _, _, .ins (us := us) (ks := ks) (ds := ds) h1 e1 r, h => by
    generalize hq : ks.zip ds = zs at h
    cases h with
    | ins h2 e2 r2 =>
      rename_i us2 ks2 ds2
      have l1 := r.length
      have l2 := r2.length
      rw [List.length_map] at l1 l2
      have e : ds = ds2 := by
        have z := congrArg (List.map Prod.snd) hq
        rw [List.map_snd_zip (by rw [e1, List.length_map]; omega), List.map_snd_zip (by rw [e2, List.length_map]; omega)] at z
        exact z
      exact .ins h2 e2 (Reps.back p r (e ▸ r2) |> fun q => e ▸ q)
theorem Reps.back {K' : PySem.W.Frag} {Hb' : Hp} (p : al <+: al') : ∀ {v : List V} {d : List D} {v' : List V}, Reps K Hb al v d → Reps K' Hb' al' v' d → Reps K' Hb' al v' d
  | _, _, _, .nil, h => by cases h; exact .nil
  | _, _, _, .cons h r, q => by
    cases q with
    | cons h2 r2 => exact .cons (Rep.back p h h2) (Reps.back p r r2)
end
end
/-! ### statements -/
def dNext : DTS := fun D Γ μ => D.nx Γ μ
def dSeq (t u : DTS) : DTS := fun D Γ μ => t { D with nx := u D } Γ μ
def dDrop (f : DTE) : DTS := fun D Γ μ => f Γ μ (fun _ μ1 => D.nx Γ μ1) (fun x μ1 => D.ex x Γ μ1)
def dRet (f : DTE) : DTS := fun D Γ μ => f Γ μ D.rt (fun x μ1 => D.ex x Γ μ1)
def dRetN : DTS := fun D Γ μ => D.rt .non μ
def dIf (t : DTT) (a b : DTS) : DTS := fun D Γ μ => t Γ μ (fun c μ1 => cond c (a D Γ μ1) (b D Γ μ1)) (fun x μ1 => D.ex x Γ μ1)
def dBreak : DTS := fun D Γ μ => D.bk Γ μ
def dCont : DTS := fun D Γ μ => D.ct Γ μ
abbrev DTG := D → Gam → Mu → (Gam → Mu → Prop) → (Exn → Mu → Prop) → Prop
def dName (i : Nat) : DTG := fun d Γ μ Q _ => Q (Γ.set i (some d)) μ
def dAsg (f : DTE) (g : DTG) : DTS := fun D Γ μ => f Γ μ (fun d μ1 => g d Γ μ1 D.nx (fun x μ2 => D.ex x Γ μ2)) (fun x μ1 => D.ex x Γ μ1)
section
variable (K : PySem.W.Frag) (W : WX)
def liftG (g : DTG) : TG := fun v σ H Q => ∃ n d Γ μ Qd Ed, n.H = H ∧ SR0 K n μ ∧ GR K n Γ σ ∧ Rep K n.Hb n.al v d ∧ g d Γ μ Qd Ed ∧
  (∀ n' Γ' σ' μ', Step n n' → SR0 K n' μ' → GR K n' Γ' σ' → Qd Γ' μ' → Q σ' n'.H) ∧ XLink K W n Γ σ Ed
end
abbrev DG (X : Cx) (W : WX) (tg : Expr) (g : DTG) : Prop := PG X tg (liftG X.K W g)
section
variable {X : Cx} {W : WX} {e c tg : Expr} {st : Stmt} {rest sa sb : List Stmt} {pos : Pos} {f : DTE} {t : DTT} {T U : DTS} {g : DTG}
theorem PG.imp {g g' : TG} (h : PG X tg g) (hi : ∀ v σ H Q, g' v σ H Q → g v σ H Q) : PG X tg g' :=
  ⟨fun u v pins s σ H Q I r q => h.run u v pins s σ H Q I r (hi _ _ _ _ q)⟩
theorem liftS_go {K : PySem.W.Frag} {A n : Now} {Γ : Gam} {μ : Mu} {σ : St} {Dd : DEnds} {Dn : Ends} (sa : Step A n) (sr : SR0 K n μ) (gr : GR K n Γ σ) (h : T Dd Γ μ) (l : Links K W A Dd Dn) : liftS K W T Dn σ n.H :=
  ⟨A, n, Γ, μ, Dd, rfl, sa, sr, gr, h, l⟩
theorem Links.x {K : PySem.W.Frag} {A n : Now} {Γ : Gam} {σ : St} {Dd : DEnds} {Dn : Ends} (l : Links K W A Dd Dn) (s : Step A n) (gr : GR K n Γ σ) : XLink K W n Γ σ (fun x μ1 => Dd.ex x Γ μ1) :=
  fun n' cls dd x μ' s' r' e q => l.ex n' Γ σ μ' cls dd x (s.trans s') r' (gr.step s') e q
theorem dss_nil : DSs X W [] dNext := PSs.imp pss_nil fun Dn σ H ⟨A, n, Γ, μ, Dd, hH, sa, sr, gr, h, l⟩ => by
  subst hH; exact l.nx n Γ σ μ sa sr gr h
theorem dss_cons (h1 : DS X W st T) (h2 : DSs X W rest U) : DSs X W (st :: rest) (dSeq T U) := PSs.imp (pss_cons h1 h2) fun Dn σ H ⟨A, n, Γ, μ, Dd, hH, sa, sr, gr, h, l⟩ => by
  subst hH
  refine liftS_go sa sr gr h ⟨fun n' Γ' σ' μ' s' r' g' q => liftS_go s' r' g' q l, l.bk, l.ct, l.rt, l.ex⟩
theorem dss_one (h1 : DS X W st T) : DSs X W [st] T := pss_one h1
theorem ds_drop (h : DE X W e f) (hs : swapsWith e none pos.line X.env = pure false := by rfl) : DS X W (.Expr e pos) (dDrop f) := PS.imp (ps_expr h hs) fun Dn σ H ⟨A, n, Γ, μ, Dd, hH, sa, sr, gr, h, l⟩ => by
  subst hH
  exact lift_go sr gr h (fun n' v d μ' s' r' _ q => l.nx n' Γ σ μ' (sa.trans s') r' (gr.step s') q) (l.x sa gr)
theorem ds_ret (h : DE X W e f) : DS X W (.Return (some e) pos) (dRet f) := PS.imp (ps_ret h) fun Dn σ H ⟨A, n, Γ, μ, Dd, hH, sa, sr, gr, h, l⟩ => by
  subst hH
  exact lift_go sr gr h (fun n' v d μ' s' r' p q => l.rt n' v d μ' (sa.trans s') r' p q) (l.x sa gr)
theorem ds_retN : DS X W (.Return none pos) dRetN := PS.imp ps_retN fun Dn σ H ⟨A, n, Γ, μ, Dd, hH, sa, sr, gr, h, l⟩ => by
  subst hH
  exact l.rt n .non .non μ sa sr .non h
theorem ds_pass : DS X W (.Pass pos) dNext := PS.imp ps_pass fun Dn σ H ⟨A, n, Γ, μ, Dd, hH, sa, sr, gr, h, l⟩ => by
  subst hH; exact l.nx n Γ σ μ sa sr gr h
theorem ds_break : DS X W (.Break pos) dBreak := PS.imp ps_break fun Dn σ H ⟨A, n, Γ, μ, Dd, hH, sa, sr, gr, h, l⟩ => by
  subst hH; exact l.bk n Γ σ μ sa sr gr h
theorem ds_cont : DS X W (.Continue pos) dCont := PS.imp ps_continue fun Dn σ H ⟨A, n, Γ, μ, Dd, hH, sa, sr, gr, h, l⟩ => by
  subst hH; exact l.ct n Γ σ μ sa sr gr h
theorem ds_if (hc : DT X W c t) (ha : DSs X W sa T) (hb : DSs X W sb U) : DS X W (.If c sa sb pos) (dIf t T U) := PS.imp (ps_if hc ha hb) fun Dn σ H ⟨A, n, Γ, μ, Dd, hH, sa, sr, gr, h, l⟩ => by
  subst hH
  refine liftT_go sr gr h (fun n' b μ' s' r' q => ?_) (l.x sa gr)
  cases b with
  | true => exact iteT (liftS_go (sa.trans s') r' (gr.step s') q l)
  | false => exact iteF (liftS_go (sa.trans s') r' (gr.step s') q l)
theorem dg_name {i : Nat} (h : PG X tg (gName i)) : DG X W tg (dName i) := PG.imp h fun v σ H Q ⟨n, d, Γ, μ, Qd, Ed, hH, sr, gr, rp, h, hq, hx⟩ => by
  subst hH
  exact hq n (Γ.set i (some d)) (σ.set i (some v)) μ (Step.refl n) sr (gr.set rp i) h
theorem ds_asg (he : DE X W e f) (hg : DG X W tg g) (hs : swapsWithSole [tg] e pos.line X.env = pure false := by rfl) (hw : swappedStores [tg] e X.env = pure none := by rfl)
    (h1 : (assignEach [tg] X.env).map (·.2) = [assign tg X.env] := by rfl) : DS X W (.Assign [tg] e pos) (dAsg f g) := PS.imp (ps_asg he hg hs hw h1) fun Dn σ H ⟨A, n, Γ, μ, Dd, hH, sa, sr, gr, h, l⟩ => by
  subst hH
  refine lift_go sr gr h (fun n' v d μ' s' r' p q => ?_) (l.x sa gr)
  exact ⟨n', d, Γ, μ', _, _, rfl, r', gr.step s', p, q, fun n2 Γ2 σ2 μ2 s2 r2 g2 q2 => l.nx n2 Γ2 σ2 μ2 ((sa.trans s').trans s2) r2 g2 q2, l.x (sa.trans s') (gr.step s')⟩
theorem ds_set {i : Nat} {x : Str} {pos' : Pos} (he : DE X W e f) (hN : X.N.Nodup) (hi : X.N[i]? = some x := by rfl) (hx : Loc X.env.scope x := by first | exact Or.inl rfl | exact Or.inr rfl) (hs : swapsWith e (some (.Name x pos')) pos.line X.env = pure false := by rfl) (hf : X.fn x = true ∨ X.env.scope.names.lookup x = some .local := by first | exact .inl rfl | exact .inr rfl | assumption) :
    DS X W (.Assign [.Name x pos'] e pos) (dAsg f (dName i)) := PS.imp (ps_set (i := i) (pos := pos) (pos' := pos') hN hi hx he hs hf) fun Dn σ H ⟨A, n, Γ, μ, Dd, hH, sa, sr, gr, h, l⟩ => by
  subst hH
  refine lift_go sr gr h (fun n' v d μ' s' r' p q => ?_) (l.x sa gr)
  exact l.nx n' (Γ.set i (some d)) (σ.set i (some v)) μ' (sa.trans s') r' ((gr.step s').set p i) q
end
end DV

namespace DV
open PySem L2
def spOf (K : PySem.W.Frag) (S : DSp) : Sp := fun vs H Q E => ∃ n ds μ Qd Ed, n.H = H ∧ SR0 K n μ ∧ Reps K n.Hb n.al vs ds ∧ S ds μ Qd Ed ∧ LV K n Qd Q ∧
  (∀ n' cls dd x μ', Step n n' → SR0 K n' μ' → ExR K n' cls dd x → Ed x μ' → E cls dd n'.H)
section
variable {X : Cx} {W : WX} {k : Nat} {f : Addr} {fd : FuncData} {ps : List Str} {S : DSp} {x : Str} {p pos : Pos} {e : Expr} {es : List Expr} {fr : DTA}
theorem call_go {K : PySem.W.Frag} (σ : St) (H : Hp) (Q : VK) (h : lift K W (dOp S fr) σ H Q) : liftA K W fr σ H fun vs H1 => spOf K S vs H1 Q (WE W σ) := by
  obtain ⟨n, Γ, μ, Qd, Ed, hH, sr, gr, h, hq, hx⟩ := h
  subst hH
  exact liftA_go sr gr h (fun n1 x dx μ1 s1 r1 p1 q1 => ⟨n1, dx, μ1, Qd, Ed, rfl, r1, p1, q1, LV.step hq s1, hx.step s1⟩) hx
theorem de_fn (F : FnOk X.prog X.w X.K X.mg X.base (L2.CX X.prog X.w) k f fd ps (spOf X.K S)) (hr : Room k X.A) (hg : Gl X x) (hm : X.mg x = some (.ref f)) (hk : PySem.W.keepIn X.K (.ref f) = true) (hb : Binds X.K fd ps []) (tk : Takes X W)
    (ha : DA X W (e :: es) fr) (hdb : (x == ("__debug__" : Str)) = false := by decide) (he : starEach (e :: es) X.env = (false, eval e X.env) :: starEach es X.env := by rfl) (hpl : (backTo pos (starEach es X.env)).any (·.1) = false := by rfl) :
    DE X W (.Call (.Name x p) (e :: es) [] pos) (dOp S fr) := PE.imp (pe_callS (E := WE W) F hr hg hm hk hb (fun σ => passAt tk σ) ha hdb he hpl) (fun σ H Q h => call_go σ H Q h)
end
/-! ### a def's end -/
def Upd (μ μ1 : Mu) : Prop := μ1.length = μ.length ∧ ∀ (i : Nat) c, μ1[i]? = some c → μ[i]? = some c ∨ c.pu = true
theorem Upd.refl (μ : Mu) : Upd μ μ := ⟨rfl, fun _ _ h => .inl h⟩
theorem Upd.set {μ μ1 : Mu} (u : Upd μ μ1) {l : Nat} {c : Cell} (hc : c.pu = true) : Upd μ (μ1.set l c) := by
  refine ⟨by rw [List.length_set]; exact u.1, fun i d h => ?_⟩
  by_cases hi : l = i
  · subst hi
    by_cases hl : l < μ1.length
    · rw [List.getElem?_set_self hl] at h; cases h; exact .inr hc
    · rw [List.getElem?_eq_none (by simp; omega)] at h; cases h
  · rw [List.getElem?_set_ne hi] at h; exact u.2 i d h
def FnEnd (μ : Mu) (d : D) (μ' : Mu) (Q : D → Mu → Prop) : Prop := Q d μ' ∨ ∃ μ1 loc, μ' = μ1 ++ loc ∧ Upd μ μ1 ∧
  ((d.pu = true ∧ Q d μ1) ∨ (∃ l, d = .ref l ∧ l < μ1.length ∧ Q d μ1) ∨
   (∃ l ds, d = .ref (μ1.length + l) ∧ loc[l]? = some (.lst ds) ∧ D.puL ds = true ∧ Q (.ref μ1.length) (μ1 ++ [.lst ds])) ∨
   (∃ l ds, d = .ref (μ1.length + l) ∧ loc[l]? = some (.lst ds) ∧ D.puL ds = true ∧ Q (.lst ds) μ1) ∨
   (∃ l ds, d = .ref (μ1.length + l) ∧ loc[l]? = some (.dct ds) ∧ D.puK ds = true ∧ Q (.ref μ1.length) (μ1 ++ [.dct ds])) ∨
   (∃ l ds, d = .ref (μ1.length + l) ∧ loc[l]? = some (.dct ds) ∧ D.puK ds = true ∧ Q (.dct ds) μ1))
def FnExc (μ : Mu) (x : Exn) (μ' : Mu) (E : Exn → Mu → Prop) : Prop := ∃ μ1 loc, μ' = μ1 ++ loc ∧ Upd μ μ1 ∧ D.puF x.fs = true ∧ E x μ1
def dFn (μ : Mu) (Q : D → Mu → Prop) (E : Exn → Mu → Prop) : DEnds := { nx := fun _ μ' => FnEnd μ .non μ' Q, rt := fun d μ' => FnEnd μ d μ' Q, ex := fun x _ μ' => FnExc μ x μ' E }
theorem FnEnd.pure {μ μ1 loc : Mu} {d : D} {Q : D → Mu → Prop} (u : Upd μ μ1) (h : d.pu = true) (q : Q d μ1) : FnEnd μ d (μ1 ++ loc) Q := .inr ⟨μ1, loc, rfl, u, .inl ⟨h, q⟩⟩
theorem FnEnd.pure0 {μ μ1 : Mu} {d : D} {Q : D → Mu → Prop} (u : Upd μ μ1) (h : d.pu = true) (q : Q d μ1) : FnEnd μ d μ1 Q := .inr ⟨μ1, [], by simp, u, .inl ⟨h, q⟩⟩
theorem FnEnd.here {μ μ' : Mu} {d : D} {Q : D → Mu → Prop} (q : Q d μ') : FnEnd μ d μ' Q := .inl q
section
variable {K : PySem.W.Frag} {A n : Now} {μ μ1 loc : Mu}
/-- the cells of the callee are let go -/
theorem trunc (s0 : SR0 K A μ) (st : Step A n) (sr : SR0 K n (μ1 ++ loc)) (u : Upd μ μ1) : SR0 K ⟨n.Hb, n.H, A.al, n.ph⟩ μ1 ∧ Step A ⟨n.Hb, n.H, A.al, n.ph⟩ := by
  have hl : A.al.length = μ1.length := s0.len.trans u.1.symm
  have hsub : ∀ a ∈ A.al, a ∈ n.al := fun a h => st.pre.subset h
  refine ⟨⟨sr.same, hl, s0.nd, fun i a c e1 e2 => ?_, fun a ha => sr.alh a (hsub a ha), fun i j x y e1 e2 => ?_, fun b hb => ?_⟩, ⟨st.same, List.prefix_refl _, st.newb, fun b h => .inl h, st.newp, st.keep, st.dom⟩⟩
  · have e1' : A.al[i]? = some a := e1
    have hi : i < μ1.length := by rw [← hl]; exact (List.getElem?_eq_some_iff.mp e1').1
    have e2' : (μ1 ++ loc)[i]? = some c := by rw [List.getElem?_append_left hi]; exact e2
    have q := sr.cell i a c (pre_get st.pre e1') e2'
    rcases u.2 i c e2 with h | h
    · have q0 := s0.cell i a c e1' h
      cases c with
      | gone => trivial
      | lst ds => obtain ⟨h0, vs, h1, h2⟩ := q; obtain ⟨_, vs0, _, h3⟩ := q0; exact ⟨h0, vs, h1, Reps.back st.pre h3 h2⟩
      | dct ds => obtain ⟨h0, vs, h1, hk, h2⟩ := q; obtain ⟨_, vs0, _, _, h3⟩ := q0; exact ⟨h0, vs, h1, hk, Reps.back st.pre h3 h2⟩
      | ins C ds => obtain ⟨h0, dx, vs, h1, hk, h2⟩ := q; obtain ⟨_, _, vs0, _, _, h3⟩ := q0; exact ⟨h0, dx, vs, h1, hk, Reps.back st.pre h3 h2⟩
      | orc k => exact q
    · cases c with
      | gone => trivial
      | lst ds => obtain ⟨h0, vs, h1, h2⟩ := q; exact ⟨h0, vs, h1, h2.any h⟩
      | dct ds => obtain ⟨h0, vs, h1, hk, h2⟩ := q; exact ⟨h0, vs, h1, hk, h2.any (by rw [← puK_eq]; exact h)⟩
      | ins C ds => obtain ⟨h0, dx, vs, h1, hk, h2⟩ := q; exact ⟨h0, dx, vs, h1, hk, h2.any (by rw [← puF_eq]; exact h)⟩
      | orc k => exact q
  · have q : ∀ (i : Nat) x, μ1[i]? = some (.orc x) → (μ1 ++ loc)[i]? = some (.orc x) := fun i x e => by
      rw [List.getElem?_append_left (List.getElem?_eq_some_iff.mp e).1]; exact e
    exact sr.orc1 i j x y (q i x e1) (q j y e2)
  · obtain ⟨h1, h2, h3⟩ := sr.phb b hb
    exact ⟨h1, fun z => h2 (hsub b z), h3⟩
theorem new_at (s0 : SR0 K A μ) (st : Step A n) (sr : SR0 K n (μ1 ++ loc)) (u : Upd μ μ1) {l : Nat} {a : Addr} (h : n.al[μ1.length + l]? = some a) : a ∉ A.al ∧ A.H a = none := by
  have h1 : a ∉ A.al := fun z => by
    obtain ⟨i, hi, e⟩ := List.getElem_of_mem z
    have e1 : A.al[i]? = some a := by rw [List.getElem?_eq_getElem hi, e]
    have := nodup_get sr.nd (pre_get st.pre e1) h
    have := s0.len
    have := u.1
    omega
  refine ⟨h1, ?_⟩
  rcases st.newa a (List.mem_of_getElem? h) with z | z
  · exact absurd z h1
  · exact z
/-- one of them becomes data -/
theorem frozen (s0 : SR0 K A μ) (st : Step A n) (sr : SR0 K n (μ1 ++ loc)) (u : Upd μ μ1) {l : Nat} {a : Addr} {o : HO} (h : n.al[μ1.length + l]? = some a) (ho : n.H a = some o) (hb : n.Hb a = none) :
    SR0 K ⟨upd n.Hb a o, n.H, A.al, n.ph⟩ μ1 ∧ Step A ⟨upd n.Hb a o, n.H, A.al, n.ph⟩ := by
  obtain ⟨t1, t2⟩ := trunc s0 st sr u
  obtain ⟨na, nH⟩ := new_at s0 st sr u h
  have su : Same n.Hb (upd n.Hb a o) := same_upd hb
  refine ⟨⟨fun b v e => ?_, t1.len, t1.nd, fun i b c e1 e2 => ?_, t1.alh, t1.orc1, fun b hb' => ?_⟩, ⟨t2.same.trans su, t2.pre, fun b v e => ?_, t2.newa, t2.newp, t2.keep, t2.dom⟩⟩
  · by_cases hba : b = a
    · subst hba
      have e' : upd n.Hb b o b = some v := e
      rw [upd_same] at e'; cases e'; exact ho
    · have e' : upd n.Hb a o b = some v := e
      rw [upd_ne hba] at e'; exact sr.same _ _ e'
  · have hne : b ≠ a := fun z => na (z ▸ List.mem_of_getElem? e1)
    exact (t1.cell i b c e1 e2).grow (n' := ⟨upd n.Hb a o, n.H, A.al, n.ph⟩) rfl (fun z => (upd_ne hne).trans z) su (List.prefix_refl _) rfl fun _ _ => rfl
  · obtain ⟨h1, h2, h3⟩ := t1.phb b hb'
    have hne : b ≠ a := fun z => by
      subst z
      exact (sr.phb b hb').2.1 (List.mem_of_getElem? h)
    exact ⟨(upd_ne hne).trans h1, h2, h3⟩
  · by_cases hba : b = a
    · subst hba; exact .inr (.inl nH)
    · have e' : upd n.Hb a o b = some v := e
      rw [upd_ne hba] at e'; exact t2.newb b v e'
/-- one of them is handed on -/
theorem handed (s0 : SR0 K A μ) (st : Step A n) (sr : SR0 K n (μ1 ++ loc)) (u : Upd μ μ1) {l : Nat} {a : Addr} {c : Cell} (h : n.al[μ1.length + l]? = some a) (hc : loc[l]? = some c) (hp : c.pu = true) (ho : ∀ k, c ≠ .orc k) :
    SR0 K ⟨n.Hb, n.H, A.al ++ [a], n.ph⟩ (μ1 ++ [c]) ∧ Step A ⟨n.Hb, n.H, A.al ++ [a], n.ph⟩ := by
  obtain ⟨t1, t2⟩ := trunc s0 st sr u
  obtain ⟨na, nH⟩ := new_at s0 st sr u h
  have hl : A.al.length = μ1.length := s0.len.trans u.1.symm
  refine ⟨⟨t1.same, by simp [hl], ?_, fun i b d e1 e2 => ?_, fun b hb => ?_, fun i j x y e1 e2 => ?_, fun b hb' => ?_⟩, ⟨t2.same, List.prefix_append _ _, t2.newb, fun b hb => ?_, t2.newp, t2.keep, t2.dom⟩⟩
  · show (A.al ++ [a]).Nodup
    rw [List.nodup_append]
    exact ⟨s0.nd, by simp, fun b hb c hc z => by rw [List.mem_singleton.mp hc] at z; exact na (z ▸ hb)⟩
  · have e1' : (A.al ++ [a])[i]? = some b := e1
    by_cases hi : i < A.al.length
    · rw [List.getElem?_append_left hi] at e1'
      rw [List.getElem?_append_left (by rw [← hl]; exact hi)] at e2
      exact (t1.cell i b d e1' e2).grow (n' := ⟨n.Hb, n.H, A.al ++ [a], n.ph⟩) rfl (fun z => z) (Same.refl _) (List.prefix_append _ _) rfl fun _ _ => rfl
    · rw [List.getElem?_append_right (by omega)] at e1'
      rw [List.getElem?_append_right (by rw [← hl]; omega), ← hl] at e2
      have hz : i - A.al.length = 0 := by
        have := (List.getElem?_eq_some_iff.mp e1').1
        simp at this; omega
      rw [hz] at e1' e2
      simp at e1' e2
      subst e1'; subst e2
      have q := sr.cell (μ1.length + l) a c h (by rw [List.getElem?_append_right (by omega)]; simpa using hc)
      cases c with
      | gone => trivial
      | lst ds => obtain ⟨h0, vs, h1, h2⟩ := q; exact ⟨h0, vs, h1, h2.any hp⟩
      | dct ds => obtain ⟨h0, vs, h1, hk, h2⟩ := q; exact ⟨h0, vs, h1, hk, h2.any (by rw [← puK_eq]; exact hp)⟩
      | ins C ds => obtain ⟨h0, dx, vs, h1, hk, h2⟩ := q; exact ⟨h0, dx, vs, h1, hk, h2.any (by rw [← puF_eq]; exact hp)⟩
      | orc k => exact absurd rfl (ho k)
  · rcases List.mem_append.mp hb with z | z
    · exact t1.alh b z
    · rw [List.mem_singleton.mp z]; exact sr.alh a (List.mem_of_getElem? h)
  · have q : ∀ (i : Nat) x, (μ1 ++ [c])[i]? = some (.orc x) → μ1[i]? = some (.orc x) := fun i x e => by
      by_cases hi : i < μ1.length
      · rw [List.getElem?_append_left hi] at e; exact e
      · rw [List.getElem?_append_right (by omega)] at e
        have hz : i - μ1.length = 0 := by
          have := (List.getElem?_eq_some_iff.mp e).1
          simp at this; omega
        rw [hz] at e; simp at e
        exact absurd e (ho x)
    exact t1.orc1 i j x y (q i x e1) (q j y e2)
  · obtain ⟨h1, h2, h3⟩ := t1.phb b hb'
    refine ⟨h1, fun z => ?_, h3⟩
    rcases List.mem_append.mp z with z | z
    · exact h2 z
    · rw [List.mem_singleton.mp z] at hb'
      exact (sr.phb a hb').2.1 (List.mem_of_getElem? h)
  · rcases List.mem_append.mp hb with z | z
    · exact .inl z
    · rw [List.mem_singleton.mp z]; exact .inr nH
theorem zip_maps {α β γ : Type} (l : List (α × β)) (m : List (α × γ)) (h : l.map (·.1) = m.map (·.1)) : (m.map (·.1)).zip (l.map (·.2)) = l := by
  rw [← h]
  induction l with
  | nil => rfl
  | cons a l ih => exact (by simp only [List.map_cons, List.zip_cons_cons]; congr 1; exact List.zip_of_prod rfl rfl |>.symm ▸ rfl)
end
end DV

namespace DV
open PySem PySem.Spec PyProof.Rows L2
def start0 (N : List Str) (ds : List D) : Gam := ds.map some ++ List.replicate (N.length - ds.length) none
section
variable {K : PySem.W.Frag} {n : Now}
theorem gr_start {N : List Str} {vs : List V} {ds : List D} (r : Reps K n.Hb n.al vs ds) : GR K n (start0 N ds) (L2.start N vs) := by
  have hl := r.length
  refine ⟨by simp [start0, L2.start, hl], fun i d h => ?_⟩
  unfold start0 at h
  unfold L2.start
  by_cases hi : i < ds.length
  · rw [List.getElem?_append_left (by simpa using hi), List.getElem?_map] at h
    rw [List.getElem?_append_left (by simp [hl]; exact hi), List.getElem?_map]
    cases e : ds[i]? with
    | none => rw [e] at h; cases h
    | some d' =>
      rw [e] at h
      have h' : d' = d := by simpa using h
      subst h'
      obtain ⟨v, h1, h2⟩ := r.get e
      exact ⟨v, by rw [h1]; rfl, h2⟩
  · rw [List.getElem?_append_right (by simpa using hi)] at h
    have := List.mem_of_getElem? h
    rw [List.mem_replicate] at this
    exact absurd this.2 (by simp)
end
theorem fn_end {K : PySem.W.Frag} {A n : Now} {μ : Mu} {Qd : D → Mu → Prop} {Q : VK} (s0 : SR0 K A μ) (hq : LV K A Qd Q) {v : V} {d : D} {μ' : Mu} (st : Step A n) (sr : SR0 K n μ') (rp : Rep K n.Hb n.al v d) (h : FnEnd μ d μ' Qd) : Q v n.H := by
  rcases h with q | ⟨μ1, loc, rfl, u, h⟩
  · exact hq n v d μ' st sr rp q
  obtain ⟨t1, t2⟩ := trunc s0 st sr u
  have hl : A.al.length = μ1.length := s0.len.trans u.1.symm
  rcases h with ⟨hp, q⟩ | ⟨l, rfl, hlt, q⟩ | ⟨l, ds, rfl, e, hp, q⟩ | ⟨l, ds, rfl, e, hp, q⟩ | ⟨l, ds, rfl, e, hp, q⟩ | ⟨l, ds, rfl, e, hp, q⟩
  · exact hq ⟨n.Hb, n.H, A.al, n.ph⟩ v d μ1 t2 t1 (rp.any hp) q
  · refine hq ⟨n.Hb, n.H, A.al, n.ph⟩ v (.ref l) μ1 t2 t1 ?_ q
    cases rp with
    | ref h1 =>
      refine .ref ?_
      show A.al[l]? = _
      obtain ⟨t, ht⟩ := st.pre
      rw [← ht, List.getElem?_append_left (by omega)] at h1
      exact h1
  all_goals
    cases rp with
    | ref h1 =>
      have hc : (μ1 ++ loc)[μ1.length + l]? = loc[l]? := (by rw [List.getElem?_append_right (by omega)]; simp)
      rw [e] at hc
      have q1 := sr.cell _ _ _ h1 hc
      first
        | (obtain ⟨z1, z2⟩ := handed s0 st sr u h1 e hp (fun k z => by cases z)
           refine hq ⟨n.Hb, n.H, A.al ++ [_], n.ph⟩ _ (.ref μ1.length) _ z2 z1 (.ref ?_) q
           show (A.al ++ [_])[μ1.length]? = _
           rw [← hl]; simp)
        | (obtain ⟨hb, vs, hv, hr⟩ := q1
           obtain ⟨z1, z2⟩ := frozen s0 st sr u h1 hv hb
           refine hq ⟨upd n.Hb _ _, n.H, A.al, n.ph⟩ _ (.lst ds) _ z2 z1 (.lst upd_same ((hr.any hp).mono (same_upd hb) (List.prefix_refl _))) q)
        | (obtain ⟨hb, vs, hv, hk, hr⟩ := q1
           obtain ⟨z1, z2⟩ := frozen s0 st sr u h1 hv hb
           have hz : ds = (vs.map (·.1)).zip (ds.map (·.2)) := (zip_maps ds vs hk).symm
           refine hq ⟨upd n.Hb _ _, n.H, A.al, n.ph⟩ _ (.dct ds) _ z2 z1 ?_ q
           rw [hz]
           exact .dct upd_same rfl ((hr.any (by rw [← puK_eq]; exact hp)).mono (same_upd hb) (List.prefix_refl _)))
theorem exr_trunc {K : PySem.W.Frag} {n : Now} {al : List Addr} {cls : Value} {dd : Option Addr} {x : Exn} (h : ExR K n cls dd x) (hp : D.puF x.fs = true) : ExR K ⟨n.Hb, n.H, al, n.ph⟩ cls dd x := by
  obtain ⟨h1, a, us, h2, h3, h4, h5⟩ := h
  refine ⟨h1, a, us, h2, h3, h4, fun f v e => ?_⟩
  obtain ⟨d, e1, e2⟩ := h5 f v e
  refine ⟨d, e1, e2.any ?_⟩
  rw [puF_eq, puL_iff] at hp
  refine hp d ?_
  have : ∀ (l : List (Str × D)), l.lookup f = some d → d ∈ l.map (·.2) := fun l => by
    induction l with
    | nil => simp
    | cons p l ih =>
      obtain ⟨g, y⟩ := p
      intro e
      rw [List.lookup_cons] at e
      split at e
      · cases e; simp
      · exact List.mem_map.mpr (by
          obtain ⟨z, hz⟩ := List.mem_map.mp (ih e)
          exact ⟨z, List.mem_cons_of_mem _ hz.1, hz.2⟩)
  exact this _ e1
section
variable {P : Program} {w : World} {K : PySem.W.Frag} {mg : Str → Option Value} {base : Heap}
/-- THE RULE for a def, deep: its body's deep form, and the reading of it -/
theorem fun_deep {x qual : Str} {st : Stmt} {f : Addr} {fd : FuncData} {N ps : List Str} {k : Nat} {S : DSp} {T : DTS} (F : Fun K x qual st f fd) (Sc : FnScope N ps (defScope st)) (len : ∀ ds μ Q E, S ds μ Q E → ds.length = ps.length)
    (hb : ∀ (cdv : Value) (A : Around) (outer : List Env) (s : Shared) (H : Hp) (E : XK), Room k (A.deeper (envOfC qual (defScope st) s.heap.objs.size f cdv)) →
      DSs (cxOf (L2.CX P w) P w K mg base N qual (defScope st) f cdv A outer s H E) (fun cls d _ H => E cls d H) (defBody st) T)
    (hr : ∀ ds μ Q E, S ds μ Q E → T (dFn μ Q E) (start0 N ds) μ) : FnOk P w K mg base (L2.CX P w) (k + 1) f fd ps (spOf K S) := by
  refine F.okX Sc (fun vs H Q E h => ?_) (fun cdv A outer s H vs Q E hroom h => ⟨_, hb cdv A outer s H E hroom, ?_⟩)
  · obtain ⟨n, ds, μ, Qd, Ed, _, _, r, h, _⟩ := h
    rw [r.length]; exact len ds μ Qd Ed h
  · obtain ⟨n, ds, μ, Qd, Ed, hH, sr, r, h, hq, hx⟩ := h
    subst hH
    refine ⟨n, n, start0 N ds, μ, dFn μ Qd Ed, rfl, Step.refl n, sr, gr_start r, hr ds μ Qd Ed h, ⟨fun n' Γ σ μ' s' r' _ q => ?_, fun _ _ _ _ _ _ _ q => q.elim, fun _ _ _ _ _ _ _ q => q.elim, fun n' v d μ' s' r' p q => ?_, fun n' Γ σ μ' cls dd y s' r' _ ex q => ?_⟩⟩
    · exact fn_end sr hq s' r' .non q
    · exact fn_end sr hq s' r' p q
    · obtain ⟨μ1, loc, rfl, u, hp, q⟩ := q
      obtain ⟨t1, t2⟩ := trunc sr s' r' u
      exact hx ⟨n'.Hb, n'.H, n.al, n'.ph⟩ cls dd y μ1 t2 t1 (exr_trunc ex hp) q
end
end DV

namespace DV
open PySem PySem.Spec PyProof.Rows L2
/-! ### what is walked -/
def Gd (src : Option (Nat × List D)) (μ : Mu) : Prop := match src with
  | none => True
  | some (l, ds) => μ[l]? = some (.lst ds)
structure DWalk (K : PySem.W.Frag) (n : Now) (J : It) (src : Option (Nat × List D)) (ds : List D) : Prop where
  goes : ∀ n2 μ2 i, Step n n2 → SR0 K n2 μ2 → Gd src μ2 → i < ds.length → J.go i n2.H
  stops : ∀ n2 μ2, Step n n2 → SR0 K n2 μ2 → Gd src μ2 → J.stop ds.length n2.H
  yields : ∀ n2 μ2 i x H' d, Step n n2 → SR0 K n2 μ2 → Gd src μ2 → ds[i]? = some d → J.yld i n2.H x H' → ∃ n3, n3.H = H' ∧ Step n2 n3 ∧ SR0 K n3 μ2 ∧ Rep K n3.Hb n3.al x d
theorem DWalk.step {K : PySem.W.Frag} {n n' : Now} {J : It} {src : Option (Nat × List D)} {ds : List D} (w : DWalk K n J src ds) (s : Step n n') : DWalk K n' J src ds :=
  ⟨fun n2 μ2 i s2 => w.goes n2 μ2 i (s.trans s2), fun n2 μ2 s2 => w.stops n2 μ2 (s.trans s2), fun n2 μ2 i x H' d s2 => w.yields n2 μ2 i x H' d (s.trans s2)⟩
abbrev DTI := Gam → Mu → (Option (Nat × List D) → List D → Mu → Prop) → (Exn → Mu → Prop) → Prop
def liftI (K : PySem.W.Frag) (W : WX) (f : DTI) : TI := fun σ H R => ∃ n Γ μ Qd Ed, n.H = H ∧ SR0 K n μ ∧ GR K n Γ σ ∧ f Γ μ Qd Ed ∧
  (∀ n' src ds μ' J, Step n n' → SR0 K n' μ' → DWalk K n' J src ds → Qd src ds μ' → R J n'.H) ∧ XLink K W n Γ σ Ed
abbrev DI (X : Cx) (W : WX) (tg iter : Expr) (f : DTI) : Prop := PI X tg iter (liftI X.K W f)
/-- the signs of a text -/
def signs (z : Str) : List D := z.cps.toList.map fun c => D.str ⟨#[c]⟩
def dIter (f : DTE) : DTI := fun Γ μ Q E => f Γ μ (fun d μ1 => match d with
  | .lst ds => Q none ds μ1
  | .scr ns => Q none (ns.map D.int) μ1
  | .tup ds => Q none ds μ1
  | .str z => Q none (signs z) μ1
  | .ref l => (match μ1[l]? with | some (.lst ds) => Q (some (l, ds)) ds μ1 | _ => False)
  | _ => False) E
def irng (lo : Int) (n : Nat) : List D := (List.range n).map fun (i : Nat) => D.int (lo + i)
def dRange1 (f : DTE) : DTI := fun Γ μ Q E => f Γ μ (fun d μ1 => match d with
  | .int j => (-(2 ^ 62) ≤ j ∧ j < 2 ^ 62) ∧ Q none (irng 0 j.toNat) μ1
  | _ => False) E
def dRange2 (f g : DTE) : DTI := fun Γ μ Q E => f Γ μ (fun d μ1 => g Γ μ1 (fun e μ2 => match d, e with
  | .int i, .int j => (-(2 ^ 62) ≤ i ∧ i < 2 ^ 62 ∧ -(2 ^ 62) ≤ j ∧ j < 2 ^ 62) ∧ Q none (irng i (j - i).toNat) μ2
  | _, _ => False) E) E
section
variable {K : PySem.W.Frag} {n : Now} {μ : Mu}
theorem dw_list {a : Addr} {vs : List V} {ds : List D} (h : n.Hb a = some (.lst vs)) (r : Reps K n.Hb n.al vs ds) : DWalk K n (Itl K a) none ds := by
  have hl := r.length
  have w : Walk (Itl K a) vs.length (fun H => SqL K H a vs) (YAt vs) := walk_list
  have q : ∀ n2 μ2, Step n n2 → SR0 K n2 μ2 → SqL K n2.H a vs := fun n2 μ2 s sr => SqL.of (sr.same _ _ (s.same _ _ h))
  refine ⟨fun n2 μ2 i s sr _ hi => w.goes i _ (hl ▸ hi) (q n2 μ2 s sr), fun n2 μ2 s sr _ => hl ▸ w.stops _ (q n2 μ2 s sr), fun n2 μ2 i x H' d s sr _ hd y => ?_⟩
  obtain ⟨rfl, hx⟩ := w.yields i _ x H' (hl ▸ (List.getElem?_eq_some_iff.mp hd).1) (q n2 μ2 s sr) y
  obtain ⟨v, h1, h2⟩ := r.get hd
  rw [hx] at h1; cases h1
  exact ⟨n2, rfl, Step.refl _, sr, s.rep h2⟩
theorem dw_scr {a : Addr} {ns : List Int} (h : SqL K n.Hb a (ns.map V.int)) : DWalk K n (Itl K a) none (ns.map D.int) := by
  have w : Walk (Itl K a) (ns.map V.int).length (fun H => SqL K H a (ns.map V.int)) (YAt (ns.map V.int)) := walk_list
  have hl : (ns.map V.int).length = (ns.map D.int).length := by simp
  have q : ∀ n2 μ2, Step n n2 → SR0 K n2 μ2 → SqL K n2.H a (ns.map V.int) := fun n2 μ2 s sr => sr.same.seq (s.same.seq h)
  refine ⟨fun n2 μ2 i s sr _ hi => w.goes i _ (hl ▸ hi) (q n2 μ2 s sr), fun n2 μ2 s sr _ => hl ▸ w.stops _ (q n2 μ2 s sr), fun n2 μ2 i x H' d s sr _ hd y => ?_⟩
  obtain ⟨rfl, hx⟩ := w.yields i _ x H' (hl ▸ (List.getElem?_eq_some_iff.mp hd).1) (q n2 μ2 s sr) y
  obtain ⟨v, h1, h2⟩ := (reps_ints (K := K) (Hb := n2.Hb) (al := n2.al) ns).get hd
  rw [hx] at h1; cases h1
  exact ⟨n2, rfl, Step.refl _, sr, h2⟩
theorem dw_tup {a : Addr} {vs : List V} {ds : List D} (h : n.Hb a = some (.tup vs)) (r : Reps K n.Hb n.al vs ds) : DWalk K n (Itt K a) none ds := by
  have hl := r.length
  have w : Walk (Itt K a) vs.length (fun H => SqT K H a vs) (YAt vs) := walk_tup
  have q : ∀ n2 μ2, Step n n2 → SR0 K n2 μ2 → SqT K n2.H a vs := fun n2 μ2 s sr => SqT.of (sr.same _ _ (s.same _ _ h))
  refine ⟨fun n2 μ2 i s sr _ hi => w.goes i _ (hl ▸ hi) (q n2 μ2 s sr), fun n2 μ2 s sr _ => hl ▸ w.stops _ (q n2 μ2 s sr), fun n2 μ2 i x H' d s sr _ hd y => ?_⟩
  obtain ⟨rfl, hx⟩ := w.yields i _ x H' (hl ▸ (List.getElem?_eq_some_iff.mp hd).1) (q n2 μ2 s sr) y
  obtain ⟨v, h1, h2⟩ := r.get hd
  rw [hx] at h1; cases h1
  exact ⟨n2, rfl, Step.refl _, sr, s.rep h2⟩
theorem dw_str {z : Str} : DWalk K n (Its z) none (signs z) := by
  have hl : (signs z).length = z.cps.size := by simp [signs]
  have w : Walk (Its z) z.cps.size (fun _ => True) _ := walk_str
  refine ⟨fun n2 μ2 i s sr _ hi => w.goes i _ (hl ▸ hi) trivial, fun n2 μ2 s sr _ => hl ▸ w.stops _ trivial, fun n2 μ2 i x H' d s sr _ hd y => ?_⟩
  obtain ⟨rfl, c, hc, rfl⟩ := w.yields i _ x H' (hl ▸ (List.getElem?_eq_some_iff.mp hd).1) trivial y
  refine ⟨n2, rfl, Step.refl _, sr, ?_⟩
  have e : (signs z)[i]? = some (D.str ⟨#[c]⟩) := by
    unfold signs
    rw [List.getElem?_map, Array.getElem?_toList, hc]; rfl
  rw [hd] at e; cases e
  exact .str _
theorem dw_range {lo : Int} {k : Nat} : DWalk K n (Itr lo k) none (irng lo k) := by
  have hl : (irng lo k).length = k := by simp [irng]
  have w : Walk (Itr lo k) k (fun _ => True) _ := walk_range
  refine ⟨fun n2 μ2 i s sr _ hi => w.goes i _ (hl ▸ hi) trivial, fun n2 μ2 s sr _ => by rw [hl]; exact w.stops _ trivial, fun n2 μ2 i x H' d s sr _ hd y => ?_⟩
  have hi : i < k := hl ▸ (List.getElem?_eq_some_iff.mp hd).1
  obtain ⟨rfl, rfl⟩ := w.yields i _ x H' hi trivial y
  refine ⟨n2, rfl, Step.refl _, sr, ?_⟩
  have e : (irng lo k)[i]? = some (D.int (lo + i)) := by
    unfold irng
    rw [List.getElem?_map, List.getElem?_range hi]; rfl
  rw [hd] at e; cases e
  exact .int _
theorem dw_cell {l : Nat} {a : Addr} {ds : List D} (hl : n.al[l]? = some a) : DWalk K n (Itl K a) (some (l, ds)) ds := by
  have q : ∀ n2 μ2, Step n n2 → SR0 K n2 μ2 → Gd (some (l, ds)) μ2 → ∃ vs, SqL K n2.H a vs ∧ Reps K n2.Hb n2.al vs ds := fun n2 μ2 s sr g => by
    obtain ⟨_, vs, h1, h2⟩ := sr.cell l a (.lst ds) (pre_get s.pre hl) g
    exact ⟨vs, SqL.of h1, h2⟩
  have w : ∀ vs : List V, Walk (Itl K a) vs.length (fun H => SqL K H a vs) (YAt vs) := fun vs => walk_list
  refine ⟨fun n2 μ2 i s sr g hi => ?_, fun n2 μ2 s sr g => ?_, fun n2 μ2 i x H' d s sr g hd y => ?_⟩
  · obtain ⟨vs, h1, h2⟩ := q n2 μ2 s sr g
    exact (w vs).goes i _ (h2.length ▸ hi) h1
  · obtain ⟨vs, h1, h2⟩ := q n2 μ2 s sr g
    exact h2.length ▸ (w vs).stops _ h1
  · obtain ⟨vs, h1, h2⟩ := q n2 μ2 s sr g
    obtain ⟨rfl, hx⟩ := (w vs).yields i _ x H' (h2.length ▸ (List.getElem?_eq_some_iff.mp hd).1) h1 y
    obtain ⟨v, e1, e2⟩ := h2.get hd
    rw [hx] at e1; cases e1
    exact ⟨n2, rfl, Step.refl _, sr, e2⟩
end
def iAny (K : PySem.W.Frag) (tl : TE) : TI := fun σ H R => tl σ H fun x H1 => (∃ a, x = .ref a ∧ (∃ xs, SqL K H1 a xs) ∧ R (Itl K a) H1) ∨ (∃ a, x = .ref a ∧ (∃ xs, SqT K H1 a xs) ∧ R (Itt K a) H1) ∨ ∃ z, x = .str z ∧ R (Its z) H1
section
variable {X : Cx} {W : WX} {tg e a b : Expr} {p pos : Pos} {f g : DTE}
theorem pi_any {tl : TE} (hl : PE X e tl) : PI X tg e (iAny X.K tl) := by
  constructor
  intro pins s σ H R I h
  refine thn (hl.run pins s σ H _ I h) ?_
  rintro v s1 ⟨x, H1, I1, r1, q1⟩
  rcases q1 with ⟨a, rfl, ⟨xs, hq⟩, q⟩ | ⟨a, rfl, ⟨xs, hq⟩, q⟩ | ⟨z, rfl, q⟩
  · cases r1
    obtain ⟨its, rv, pl, hz⟩ := I1.list hq
    exact wpAny_pyIter_list pl.isList (pi_one (tk := s1.toks) I1 _ (turn_list a _) ⟨_, Heap.get?_push_size _ rfl, rfl, rfl⟩ q)
  · cases r1
    obtain ⟨its, rv, pl, hz⟩ := I1.tuple hq
    exact wpAny_pyIter_tuple (show s1.heap.IsTuple a its.toArray from pl) (pi_one (tk := s1.toks) I1 _ (turn_tuple a _) ⟨_, Heap.get?_push_size _ rfl, rfl, rfl⟩ q)
  · obtain ⟨t, rfl⟩ := r1
    cases ha : z.cps.all (· < 128) with
    | false => exact wpAny_pyIter_wide ha (pi_one (tk := s1.toks) I1 _ (turn_str _ z t "str_iterator" (.inr rfl)) ⟨_, Heap.get?_push_size _ rfl, rfl, rfl⟩ q)
    | true => exact wpAny_pyIter_ascii ha (pi_one (tk := s1.toks) I1 _ (turn_str _ z t "str_ascii_iterator" (.inl rfl)) ⟨_, Heap.get?_push_size _ rfl, rfl, rfl⟩ q)
theorem PI.imp {t t' : TI} (h : PI X tg e t) (hi : ∀ σ H R, t' σ H R → t σ H R) : PI X tg e t' := ⟨fun pins s σ H R I q => h.run pins s σ H R I (hi _ _ _ q)⟩
theorem di_any (h : DE X W e f) : DI X W tg e (dIter f) := PI.imp (pi_any h) fun σ H R ⟨n, Γ, μ, Qd, Ed, hH, sr, gr, h, hq, hx⟩ => by
  subst hH
  refine lift_go sr gr h (fun n1 x dx μ1 s1 r1 p1 q1 => ?_) hx
  cases p1 with
  | lst h1 h2 => exact .inl ⟨_, rfl, ⟨_, SqL.of (r1.same _ _ h1)⟩, hq n1 _ _ μ1 _ s1 r1 (dw_list h1 h2) q1⟩
  | tup h1 h2 => exact .inr (.inl ⟨_, rfl, ⟨_, SqT.of (r1.same _ _ h1)⟩, hq n1 _ _ μ1 _ s1 r1 (dw_tup h1 h2) q1⟩)
  | scr h1 => exact .inl ⟨_, rfl, ⟨_, r1.same.seq h1⟩, hq n1 _ _ μ1 _ s1 r1 (dw_scr h1) q1⟩
  | str z => exact .inr (.inr ⟨_, rfl, hq n1 _ _ μ1 _ s1 r1 dw_str q1⟩)
  | @ref l a hl =>
    dsimp only at q1
    split at q1
    · rename_i ds e
      obtain ⟨_, vs, e1, e2⟩ := r1.cell _ _ _ hl e
      exact .inl ⟨_, rfl, ⟨_, SqL.of e1⟩, hq n1 _ _ μ1 _ s1 r1 (dw_cell hl) q1⟩
    · exact q1.elim
  | _ => exact q1.elim
theorem di_range1 (hg : Gl X "range") (hm : X.mg "range" = none) (ha : DE X W a f) (hs : starEach [a] X.env = [(false, eval a X.env)] := by rfl) (hs2 : starEach [a] X.env = (false, eval a X.env) :: starEach [] X.env := by rfl) : DI X W tg (.Call (.Name "range" p) [a] [] pos) (dRange1 f) :=
  PI.imp (pi_range1 hg hm (pa_cons ha pa_nil hs2) hs) fun σ H R ⟨n, Γ, μ, Qd, Ed, hH, sr, gr, h, hq, hx⟩ => by
  subst hH
  refine lift_go sr gr h (fun n1 x dx μ1 s1 r1 p1 q1 => ?_) hx
  cases p1 with
  | int j => exact ⟨j, rfl, q1.1.1, q1.1.2, hq n1 _ _ μ1 _ s1 r1 dw_range q1.2⟩
  | _ => exact q1.elim
theorem di_range2 (hg : Gl X "range") (hm : X.mg "range" = none) (ha : DE X W a f) (hb : DE X W b g) (hs : starEach [a, b] X.env = [(false, eval a X.env), (false, eval b X.env)] := by rfl) (hs2 : starEach [b] X.env = [(false, eval b X.env)] := by rfl)
    (hs3 : starEach [a, b] X.env = (false, eval a X.env) :: starEach [b] X.env := by rfl) (hs4 : starEach [b] X.env = (false, eval b X.env) :: starEach [] X.env := by rfl) : DI X W tg (.Call (.Name "range" p) [a, b] [] pos) (dRange2 f g) :=
  PI.imp (pi_range2 hg hm (pa_cons ha (pa_cons hb pa_nil hs4) hs3) hs hs2) fun σ H R ⟨n, Γ, μ, Qd, Ed, hH, sr, gr, h, hq, hx⟩ => by
  subst hH
  simp only [iRng2, tCons, tNil]
  refine lift_go sr gr h (fun n1 x dx μ1 s1 r1 p1 q1 => lift_go r1 (gr.step s1) q1 (fun n2 y dy μ2 s2 r2 p2 q2 => ?_) (hx.step s1)) hx
  cases p1 with
  | int i =>
    cases p2 with
    | int j => exact ⟨i, j, rfl, q2.1, hq n2 _ _ μ2 _ (s1.trans s2) r2 dw_range q2.2⟩
    | _ => exact q2.elim
  | _ => exact q2.elim
end
/-! ### for -/
def dLoop (src : Option (Nat × List D)) (g : DTG) (body : DTS) : List D → DEnds → Gam → Mu → Prop
  | [], D, Γ, μ => Gd src μ ∧ D.nx Γ μ
  | d :: ds, D, Γ, μ => Gd src μ ∧ g d Γ μ (fun Γ1 μ1 => body { D with nx := dLoop src g body ds D, ct := dLoop src g body ds D, bk := D.nx } Γ1 μ1) (fun x μ1 => D.ex x Γ μ1)
def dFor (fi : DTI) (g : DTG) (body : DTS) : DTS := fun D Γ μ => fi Γ μ (fun src ds μ1 => dLoop src g body ds D Γ μ1) (fun x μ1 => D.ex x Γ μ1)
section
variable {X : Cx} {W : WX} {tg iter c : Expr} {body : List Stmt} {pos : Pos} {fi : DTI} {g : DTG} {T : DTS} {t : DTT}
theorem ds_for (hp : PassesOwn (model X.prog X.w) X.A X.env X.xe) (hc : X.calm = true) (hi : DI X W tg iter fi) (hg : DG X W tg g) (hb : DSs X W body T)
    (hs : ∀ x, foldedSetIterable iter X.env x = pure x := by intro _; rfl) : DS X W (.For tg iter body [] pos) (dFor fi g T) :=
  PS.imp (ps_for hp hc hi hg hb hs) fun Dn σ H ⟨A, n, Γ, μ, Dd, hH, sa, sr, gr, h, l⟩ => by
  subst hH
  refine ⟨n, Γ, μ, _, _, rfl, sr, gr, h, fun n1 src ds μ1 J s1 r1 w q => ?_, l.x sa gr⟩
  -- the walk
  let Pv : Nat → L2.St → Hp → Prop := fun i σ' H' => ∃ n2 Γ2 μ2, n2.H = H' ∧ Step n1 n2 ∧ SR0 X.K n2 μ2 ∧ GR X.K n2 Γ2 σ' ∧ dLoop src g T (ds.drop i) Dd Γ2 μ2
  have hG : ∀ i Γ2 μ2, dLoop src g T (ds.drop i) Dd Γ2 μ2 → Gd src μ2 := fun i Γ2 μ2 z => by
    cases hd : ds.drop i with
    | nil => rw [hd] at z; exact z.1
    | cons d r => rw [hd] at z; exact z.1
  refine ⟨fun i m σ' H' => m = ds.length - i ∧ i ≤ ds.length ∧ Pv i σ' H', ⟨ds.length, by simp, Nat.zero_le _, n1, Γ, μ1, rfl, Step.refl _, r1, gr.step s1, q⟩, ?_⟩
  rintro i m σ' H' ⟨rfl, hi, n2, Γ2, μ2, rfl, s2, r2, g2, q2⟩
  have gd := hG i Γ2 μ2 q2
  by_cases hlt : i < ds.length
  · refine .inr ⟨w.goes n2 μ2 i s2 r2 gd hlt, Pv (i + 1), fun σ3 H3 p3 => ⟨ds.length - (i + 1), by omega, rfl, hlt, p3⟩, fun x H3 y => ?_⟩
    rw [List.drop_eq_getElem_cons hlt] at q2
    obtain ⟨n3, rfl, s3, r3, p3⟩ := w.yields n2 μ2 i x H3 ds[i] s2 r2 gd (by rw [List.getElem?_eq_getElem hlt]) y
    have st3 : Step A n3 := ((sa.trans s1).trans s2).trans s3
    refine ⟨n3, ds[i], Γ2, μ2, _, _, rfl, r3, g2.step s3, p3, q2.2, fun n4 Γ4 σ4 μ4 s4 r4 g4 q4 => ?_, l.x st3 (g2.step s3)⟩
    -- the body; its way back goes through n4
    refine liftS_go (A := n1) ((s2.trans s3).trans s4) r4 g4 q4 ⟨fun n5 Γ5 σ5 μ5 s5 r5 g5 q5 => ⟨n5, Γ5, μ5, rfl, s5, r5, g5, q5⟩, fun n5 Γ5 σ5 μ5 s5 r5 g5 q5 => l.nx n5 Γ5 σ5 μ5 ((sa.trans s1).trans s5) r5 g5 q5, fun n5 Γ5 σ5 μ5 s5 r5 g5 q5 => ⟨n5, Γ5, μ5, rfl, s5, r5, g5, q5⟩,
      fun n5 v d μ5 s5 r5 p5 q5 => l.rt n5 v d μ5 ((sa.trans s1).trans s5) r5 p5 q5, fun n5 Γ5 σ5 μ5 cls dd x s5 r5 g5 e5 q5 => l.ex n5 Γ5 σ5 μ5 cls dd x ((sa.trans s1).trans s5) r5 g5 e5 q5⟩
  · have e : i = ds.length := by omega
    subst e
    rw [List.drop_length] at q2
    exact .inl ⟨w.stops n2 μ2 s2 r2 gd, l.nx n2 Γ2 σ' μ2 ((sa.trans s1).trans s2) r2 g2 q2.2⟩
/-- while: by turns told ahead -/
def dWhileN (t : DTT) (body : DTS) : Nat → DEnds → Gam → Mu → Prop
  | 0, _, _, _ => False
  | m + 1, D, Γ, μ => t Γ μ (fun c μ1 => cond c (body { D with nx := dWhileN t body m D, ct := dWhileN t body m D, bk := D.nx } Γ μ1) (D.nx Γ μ1)) (fun x μ1 => D.ex x Γ μ1)
def dWhile (t : DTT) (body : DTS) : DTS := fun D Γ μ => ∃ m, dWhileN t body m D Γ μ
theorem ds_while (hp : PassesOwn (model X.prog X.w) X.A X.env X.xe) (hc : DT X W c t) (hb : DSs X W body T) : DS X W (.While c body [] pos) (dWhile t T) :=
  PS.imp (ps_while hp hc hb) fun Dn σ H ⟨A, n, Γ, μ, Dd, hH, sa, sr, gr, ⟨m, h⟩, l⟩ => by
  subst hH
  refine ⟨fun m σ' H' => ∃ n2 Γ2 μ2, n2.H = H' ∧ Step A n2 ∧ SR0 X.K n2 μ2 ∧ GR X.K n2 Γ2 σ' ∧ dWhileN t T m Dd Γ2 μ2, ⟨m, n, Γ, μ, rfl, sa, sr, gr, h⟩, ?_⟩
  rintro m σ' H' ⟨n2, Γ2, μ2, rfl, s2, r2, g2, q2⟩
  cases m with
  | zero => exact q2.elim
  | succ m =>
    refine liftT_go r2 g2 q2 (fun n3 b μ3 s3 r3 q3 => ?_) (l.x s2 g2)
    cases b with
    | false => exact iteF (l.nx n3 Γ2 σ' μ3 (s2.trans s3) r3 (g2.step s3) q3)
    | true =>
      refine iteT ⟨fun σ4 H4 => ∃ n4 Γ4 μ4, n4.H = H4 ∧ Step A n4 ∧ SR0 X.K n4 μ4 ∧ GR X.K n4 Γ4 σ4 ∧ dWhileN t T m Dd Γ4 μ4, fun σ4 H4 z => ⟨m, Nat.lt_succ_self m, z⟩, ?_⟩
      exact liftS_go (s2.trans s3) r3 (g2.step s3) q3 ⟨fun n5 Γ5 σ5 μ5 s5 r5 g5 q5 => ⟨n5, Γ5, μ5, rfl, s5, r5, g5, q5⟩, l.nx, fun n5 Γ5 σ5 μ5 s5 r5 g5 q5 => ⟨n5, Γ5, μ5, rfl, s5, r5, g5, q5⟩, l.rt, l.ex⟩
end
end DV

namespace DV
open PySem PySem.Spec PyProof.Rows L2
abbrev W0 : WX := fun _ _ _ _ => False
def wipeG (Γ : Gam) : List Nat → Gam
  | [] => Γ
  | v :: vs => (wipeG Γ vs).set v none
theorem wipeG_len (Γ : Gam) : ∀ vs, (wipeG Γ vs).length = Γ.length
  | [] => rfl
  | v :: vs => by simp [wipeG, wipeG_len Γ vs]
theorem GR.unset {K : PySem.W.Frag} {n : Now} {Γ : Gam} {σ : L2.St} (g : GR K n Γ σ) (i : Nat) : GR K n (Γ.set i none) (σ.set i none) := by
  refine ⟨by simp [g.len], fun j e h => ?_⟩
  by_cases hj : i = j
  · subst hj
    by_cases hl : i < Γ.length
    · rw [List.getElem?_set_self hl] at h; cases h
    · rw [List.getElem?_eq_none (by simp; omega)] at h; cases h
  · rw [List.getElem?_set_ne hj] at h ⊢
    exact g.at_ j e h
theorem GR.wipe {K : PySem.W.Frag} {n : Now} {Γ : Gam} {σ : L2.St} (g : GR K n Γ σ) : ∀ vs, GR K n (wipeG Γ vs) (L2.wipe σ vs)
  | [] => g
  | v :: vs => (GR.wipe g vs).unset v
/-- slots outside vs agree -/
theorem wipe_get (σ : L2.St) : ∀ (vs : List Nat) (k : Nat), (L2.wipe σ vs)[k]? = if k ∈ vs then (if k < σ.length then some none else none) else σ[k]?
  | [], k => by simp [L2.wipe]
  | v :: vs, k => by
    have ih := wipe_get σ vs k
    have hl := L2.wipe_length σ vs
    show ((L2.wipe σ vs).set v none)[k]? = _
    by_cases hk : v = k
    · subst hk
      simp only [List.mem_cons, true_or, if_true]
      by_cases hl2 : v < σ.length
      · rw [List.getElem?_set_self (by omega), if_pos hl2]
      · rw [List.getElem?_eq_none (by simp; omega), if_neg hl2]
    · rw [List.getElem?_set_ne hk, ih]
      have : (k ∈ v :: vs) ↔ k ∈ vs := by simp [Ne.symm hk]
      simp only [this]
theorem wipe_eq {σ σ' : L2.St} {vs : List Nat} (hl : σ'.length = σ.length) (h : ∀ k, k ∉ vs → σ'[k]? = σ[k]?) : L2.wipe σ' vs = L2.wipe σ vs := by
  apply List.ext_getElem?
  intro k
  rw [wipe_get, wipe_get, hl]
  split
  · rfl
  · rename_i hk; exact h k hk
/-- a comprehension's target -/
def CT (K : PySem.W.Frag) (vs : List Nat) (g : TG) (gd : D → Gam → Mu → (Gam → Prop) → Prop) : Prop :=
  ∀ n μ v d Γ σ (Qd : Gam → Prop) Q, SR0 K n μ → GR K n Γ σ → Rep K n.Hb n.al v d → gd d Γ μ Qd → (∀ Γ' σ', GR K n Γ' σ' → σ'.length = σ.length → (∀ k, k ∉ vs → σ'[k]? = σ[k]?) → Qd Γ' → Q σ' n.H) → g v σ n.H Q
def cName (i : Nat) : D → Gam → Mu → (Gam → Prop) → Prop := fun d Γ _ Q => Q (Γ.set i (some d))
theorem ct_name {K : PySem.W.Frag} {vs : List Nat} {i : Nat} (hi : i ∈ vs) : CT K vs (gName i) (cName i) := fun n μ v d Γ σ Qd Q sr gr rp h hq =>
  hq _ _ (gr.set rp i) (by simp) (fun k hk => List.getElem?_set_ne (show i ≠ k from fun z => hk (z ▸ hi))) h
/-- (x, y) as a target: a tuple of two -/
def cPair (i j : Nat) : D → Gam → Mu → (Gam → Prop) → Prop := fun d Γ _ Q => match d with
  | .tup [x, y] => Q ((Γ.set i (some x)).set j (some y))
  | _ => False
theorem ct_pair {K : PySem.W.Frag} {vs : List Nat} {i j : Nat} (hi : i ∈ vs) (hj : j ∈ vs) : CT K vs (L2.gTup K 2 (gCons (gName i) (gCons (gName j) gNil))) (cPair i j) := fun n μ v d Γ σ Qd Q sr gr rp h hq => by
  unfold cPair at h
  split at h
  · rename_i x y
    cases rp with
    | tup h1 h2 =>
      cases h2 with
      | cons p1 r1 =>
        cases r1 with
        | cons p2 r2 =>
          cases r2
          refine ⟨_, _, rfl, SqT.of (sr.same _ _ h1), rfl, _, _, rfl, _, _, rfl, rfl, ?_⟩
          exact hq _ _ ((gr.set p1 i).set p2 j) (by simp) (fun k hk => by
            rw [List.getElem?_set_ne (show j ≠ k from fun z => hk (z ▸ hj)), List.getElem?_set_ne (show i ≠ k from fun z => hk (z ▸ hi))]) h
  · exact h.elim
section
variable {K : PySem.W.Frag} {n n1 : Now} {μ : Mu} {p : Addr} {o : HO}
structure Hid (n : Now) (p : Addr) : Prop where
  b : n.Hb p = none
  a : p ∉ n.al
  ph : p ∉ n.ph
theorem SR0.other (s : SR0 K n μ) (h : Hid n p) : SR0 K (n.more p o) μ := by
  refine ⟨fun b u e => ?_, s.len, s.nd, fun i a c e1 e2 => ?_, fun a ha => ?_, s.orc1, fun b hb' => ?_⟩
  · show upd n.H p o b = _
    rw [upd_ne (ne_of_none e h.b)]; exact s.same _ _ e
  · have hne : a ≠ p := fun z => h.a (z ▸ List.mem_of_getElem? e1)
    exact (s.cell i a c e1 e2).grow (n' := n.more p o) (upd_ne hne) (fun z => z) (Same.refl _) (List.prefix_refl _) rfl fun b hb' => upd_ne fun z => h.ph (z ▸ hb')
  · have hne : a ≠ p := fun z => h.a (z ▸ ha)
    show upd n.H p o a ≠ none
    rw [upd_ne hne]; exact s.alh a ha
  · have hne : b ≠ p := fun z => h.ph (z ▸ hb')
    obtain ⟨h1, h2, h3⟩ := s.phb b hb'
    exact ⟨h1, h2, by show upd n.H p o b ≠ none; rw [upd_ne hne]; exact h3⟩
theorem Step.other (s : Step n1 n) (h : n1.H p = none) : Step n1 (n.more p o) where
  same := s.same
  pre := s.pre
  newb := s.newb
  newa := s.newa
  newp := s.newp
  keep := fun b u e h1 h2 => by show upd n.H p o b = _; rw [upd_ne (ne_of_none e h)]; exact s.keep b u e h1 h2
  dom := fun b e => by
    by_cases hb : b = p
    · subst hb; exact h
    · refine s.dom b ?_
      rw [← e]; exact (upd_ne hb).symm
theorem Hid.step {n' : Now} (h : Hid n p) (hp : n.H p = some o) (s : Step n n') : Hid n' p ∧ n'.H p = some o := by
  refine ⟨⟨?_, fun z => ?_, fun z => ?_⟩, s.keep p o hp h.a h.ph⟩
  · cases e : n'.Hb p with
    | none => rfl
    | some u =>
      rcases s.newb p u e with z | z | z
      · rw [h.b] at z; cases z
      · rw [hp] at z; cases z
      · exact absurd z h.a
  · rcases s.newa p z with z | z
    · exact h.a z
    · rw [hp] at z; cases z
  · rcases s.newp p z with z | z
    · exact h.ph z
    · rw [hp] at z; cases z
theorem SR0.adopt (s : SR0 K n μ) (h : Hid n p) (hp : n.H p = some o) : SR0 K ⟨upd n.Hb p o, n.H, n.al, n.ph⟩ μ := by
  refine ⟨fun b u e => ?_, s.len, s.nd, fun i a c e1 e2 => ?_, s.alh, s.orc1, fun b hb' => ?_⟩
  · have e' : upd n.Hb p o b = some u := e
    by_cases hb : b = p
    · subst hb; rw [upd_same] at e'; cases e'; exact hp
    · rw [upd_ne hb] at e'; exact s.same _ _ e'
  · have hne : a ≠ p := fun z => h.a (z ▸ List.mem_of_getElem? e1)
    exact (s.cell i a c e1 e2).grow (n' := ⟨upd n.Hb p o, n.H, n.al, n.ph⟩) rfl (fun z => (upd_ne hne).trans z) (same_upd h.b) (List.prefix_refl _) rfl fun _ _ => rfl
  · have hne : b ≠ p := fun z => h.ph (z ▸ hb')
    obtain ⟨h1, h2, h3⟩ := s.phb b hb'
    exact ⟨(upd_ne hne).trans h1, h2, h3⟩
theorem Step.adopt (s : Step n1 n) (h1 : n1.H p = none) (h : Hid n p) : Step n1 ⟨upd n.Hb p o, n.H, n.al, n.ph⟩ where
  same := s.same.trans (same_upd h.b)
  pre := s.pre
  newb := fun b u e => by
    have e' : upd n.Hb p o b = some u := e
    by_cases hb : b = p
    · subst hb; exact .inr (.inl h1)
    · rw [upd_ne hb] at e'; exact s.newb b u e'
  newa := s.newa
  newp := s.newp
  keep := s.keep
  dom := s.dom
theorem SR0.adoptC (s : SR0 K n μ) (h : Hid n p) (hp : n.H p = some o) {c : Cell} (hc : CellAt K ⟨n.Hb, n.H, n.al ++ [p], n.ph⟩ p c) (ho : ∀ k, c ≠ .orc k) : SR0 K ⟨n.Hb, n.H, n.al ++ [p], n.ph⟩ (μ ++ [c]) := by
  refine ⟨s.same, by simp [s.len], ?_, fun i a d e1 e2 => ?_, fun a ha => ?_, fun i j x y e1 e2 => ?_, fun b hb' => ?_⟩
  · show (n.al ++ [p]).Nodup
    rw [List.nodup_append]
    exact ⟨s.nd, by simp, fun a ha b hb z => by rw [List.mem_singleton.mp hb] at z; exact h.a (z ▸ ha)⟩
  · have e1' : (n.al ++ [p])[i]? = some a := e1
    by_cases hi : i < n.al.length
    · rw [List.getElem?_append_left hi] at e1'
      rw [List.getElem?_append_left (by rw [← s.len]; exact hi)] at e2
      exact (s.cell i a d e1' e2).grow (n' := ⟨n.Hb, n.H, n.al ++ [p], n.ph⟩) rfl (fun z => z) (Same.refl _) (List.prefix_append _ _) rfl fun _ _ => rfl
    · rw [List.getElem?_append_right (by omega)] at e1'
      rw [List.getElem?_append_right (by rw [← s.len]; omega), ← s.len] at e2
      have hz : i - n.al.length = 0 := by
        have := (List.getElem?_eq_some_iff.mp e1').1
        simp at this; omega
      rw [hz] at e1' e2
      simp at e1' e2
      subst e1'; subst e2
      exact hc
  · rcases List.mem_append.mp ha with z | z
    · exact s.alh a z
    · rw [List.mem_singleton.mp z]
      show n.H p ≠ none
      rw [hp]; simp
  · have q : ∀ (i : Nat) x, (μ ++ [c])[i]? = some (.orc x) → μ[i]? = some (.orc x) := fun i x e => by
      by_cases hi : i < μ.length
      · rw [List.getElem?_append_left hi] at e; exact e
      · rw [List.getElem?_append_right (by omega)] at e
        have hz : i - μ.length = 0 := by
          have := (List.getElem?_eq_some_iff.mp e).1
          simp at this; omega
        rw [hz] at e; simp at e
        exact absurd e (ho x)
    exact s.orc1 i j x y (q i x e1) (q j y e2)
  · obtain ⟨h1, h2, h3⟩ := s.phb b hb'
    refine ⟨h1, fun z => ?_, h3⟩
    rcases List.mem_append.mp z with z | z
    · exact h2 z
    · exact h.ph (List.mem_singleton.mp z ▸ hb')
theorem Step.adoptC (s : Step n1 n) (h1 : n1.H p = none) : Step n1 ⟨n.Hb, n.H, n.al ++ [p], n.ph⟩ where
  same := s.same
  pre := s.pre.trans (List.prefix_append _ _)
  newb := s.newb
  newa := fun b hb => by
    rcases List.mem_append.mp hb with z | z
    · exact s.newa b z
    · rw [List.mem_singleton.mp z]; exact .inr h1
  newp := s.newp
  keep := s.keep
  dom := s.dom
end
/-! ### comprehensions -/
def dYes : DTT := fun _ μ Q _ => Q true μ
def dCompL (src : Option (Nat × List D)) (g : D → Gam → Mu → (Gam → Prop) → Prop) (tt : DTT) (te : DTE) (Γ : Gam) : List D → List D → Mu → (List D → Mu → Prop) → Prop
  | [], acc, μ, Q => Gd src μ ∧ Q acc μ
  | d :: ds, acc, μ, Q => Gd src μ ∧ g d Γ μ fun Γ1 => tt Γ1 μ (fun b μ2 => cond b (te Γ1 μ2 (fun y μ3 => acc.length < sizeLine ∧ dCompL src g tt te Γ ds (acc ++ [y]) μ3 Q) (fun _ _ => False)) (dCompL src g tt te Γ ds acc μ2 Q)) (fun _ _ => False)
/-- as data (fz), or as a cell -/
def dFin (fz : Bool) (acc : List D) (μ : Mu) (Q : D → Mu → Prop) : Prop := match fz with
  | true => Q (.lst acc) μ
  | false => Q (.ref μ.length) (μ ++ [.lst acc])
def dComp (fz : Bool) (vs : List Nat) (fi : DTI) (g : D → Gam → Mu → (Gam → Prop) → Prop) (tt : DTT) (te : DTE) : DTE := fun Γ μ Q E => fi Γ μ (fun src ds μ1 => dCompL src g tt te (wipeG Γ vs) ds [] μ1 fun acc μ2 => dFin fz acc μ2 Q) E
theorem comp_go {K : PySem.W.Frag} {W : WX} {fz : Bool} {vs : List Nat} {fi : DTI} {g : TG} {gd : D → Gam → Mu → (Gam → Prop) → Prop} {tt : DTT} {te : DTE} (hg : CT K vs g gd) (σ : L2.St) (H : Hp) (Q : VK) (h : lift K W (dComp fz vs fi gd tt te) σ H Q) :
    tLc (liftI K W fi) g (liftT K W0 tt) (lift K W0 te) vs σ H Q := by
  obtain ⟨n, Γ, μ, Qd, Ed, hH, sr, gr, h, hq, hx⟩ := h
  subst hH
  refine ⟨n, Γ, μ, _, _, rfl, sr, gr, h, fun n1 src ds μ1 J s1 r1 w q p hp => ?_, hx⟩
  have gw := (gr.step s1).wipe vs
  refine ⟨fun i m H' => m = ds.length - i ∧ i ≤ ds.length ∧ ∃ n2 μ2 acc avs, n2.H = H' ∧ Step n1 n2 ∧ SR0 K n2 μ2 ∧ Hid n2 p ∧ n2.H p = some (.lst avs) ∧ Reps K n2.Hb n2.al avs acc ∧ dCompL src gd tt te (wipeG Γ vs) (ds.drop i) acc μ2 (fun acc μ2 => dFin fz acc μ2 Qd),
    ⟨ds.length, by simp, Nat.zero_le _, n1.more p (.lst []), μ1, [], [], rfl, Step.more hp, r1.more hp, ⟨r1.hb hp, r1.nal hp, r1.nph hp⟩, upd_same, .nil, q⟩, ?_⟩
  rintro i m H' ⟨rfl, hi, n2, μ2, acc, avs, rfl, s2, r2, hid, hv, rp, q2⟩
  have gd2 : Gd src μ2 := by
    cases hd : ds.drop i with
    | nil => rw [hd] at q2; exact q2.1
    | cons d r => rw [hd] at q2; exact q2.1
  by_cases hlt : i < ds.length
  · refine .inr ⟨w.goes n2 μ2 i s2 r2 gd2 hlt, _, fun H3 p3 => ⟨ds.length - (i + 1), by omega, p3⟩, fun x H3 y => ?_⟩
    rw [List.drop_eq_getElem_cons hlt] at q2
    obtain ⟨n3, rfl, s3, r3, p3⟩ := w.yields n2 μ2 i x H3 ds[i] s2 r2 gd2 (by rw [List.getElem?_eq_getElem hlt]) y
    refine hg n3 μ2 x ds[i] (wipeG Γ vs) (L2.wipe σ vs) _ _ r3 ((gw.step s2).step s3) p3 q2.2 fun Γ4 σ4 g4 hl4 ha4 q4 => ⟨?_, ?_⟩
    · refine (wipe_eq hl4 ha4).trans ?_
      exact wipe_eq (L2.wipe_length σ vs) (fun k hk => by rw [wipe_get, if_neg hk])
    · refine liftT_go r3 g4 q4 (fun n5 b μ5 s5 r5 q5 => ?_) (fun _ _ _ _ _ _ _ _ z => z)
      obtain ⟨hid3, hv3⟩ := hid.step hv s3
      obtain ⟨hid5, hv5⟩ := hid3.step hv3 s5
      cases b with
      | false =>
        exact iteF ⟨rfl, hlt, n5, μ5, acc, avs, rfl, (s2.trans s3).trans s5, r5, hid5, hv5, (s3.trans s5).reps rp, q5⟩
      | true =>
        refine iteT (lift_go r5 (g4.step s5) q5 (fun n6 y dy μ6 s6 r6 p6 q6 => ?_) (fun _ _ _ _ _ _ _ _ z => z))
        obtain ⟨hid6, hv6⟩ := hid5.step hv5 s6
        have rp6 := ((s3.trans s5).trans s6).reps rp
        refine ⟨avs, hv6, by rw [rp6.length]; exact q6.1, rfl, hlt, n6.more p (.lst (avs ++ [y])), μ6, acc ++ [dy], avs ++ [y], rfl, Step.other (((s2.trans s3).trans s5).trans s6) hp, r6.other hid6, ⟨hid6.b, hid6.a, hid6.ph⟩, upd_same, rp6.append (.cons p6 .nil), q6.2⟩
  · have e : i = ds.length := by omega
    subst e
    rw [List.drop_length] at q2
    refine .inl ⟨w.stops n2 μ2 s2 r2 gd2, ?_⟩
    have q3 := q2.2
    unfold dFin at q3
    cases fz with
    | true => exact hq ⟨upd n2.Hb p (.lst avs), n2.H, n2.al, n2.ph⟩ _ (.lst acc) μ2 (s1.trans (Step.adopt s2 hp hid)) (r2.adopt hid hv) (.lst upd_same (rp.mono (same_upd hid.b) (List.prefix_refl _))) q3
    | false =>
      refine hq ⟨n2.Hb, n2.H, n2.al ++ [p], n2.ph⟩ _ (.ref μ2.length) (μ2 ++ [Cell.lst acc]) (s1.trans (Step.adoptC s2 hp)) (r2.adoptC hid hv (c := .lst acc) ⟨hid.b, avs, hv, rp.mono (Same.refl _) (List.prefix_append _ _)⟩ (fun k z => by cases z)) (.ref ?_) q3
      show (n2.al ++ [p])[μ2.length]? = _
      rw [← r2.len]; simp
section
variable {X : Cx} {W : WX} {elt tg iter : Expr} {ifs : List Expr} {scope : Scope} {own : List (Str × Nat)} {pos : Pos} {fz : Bool} {fi : DTI} {g : TG} {gd : D → Gam → Mu → (Gam → Prop) → Prop} {tt : DTT} {te : DTE}
theorem dts_nil {X : Cx} : PTs X [] (liftT X.K W0 dYes) := ⟨fun pins s σ H Q I ⟨n, Γ, μ, Qd, Ed, hH, sr, gr, h, hq, hx⟩ => by
  subst hH
  exact (pts_nil (X := X)).run pins s σ n.H Q I (hq n true μ (Step.refl n) sr h)⟩
theorem dts_one {X : Cx} {c : Expr} (h : DT X W0 c tt) : PTs X [c] (liftT X.K W0 tt) := pts_one h
theorem de_lc (hc : X.calm = true) (hN : X.N.Nodup) (hi : DI X W tg iter fi) (ok : BlkOk X.N X.env.scope scope own) (hct : CT X.K (own.map (·.2)) g gd)
    (hg : ∀ (s : Shared) (H : Hp) (C : Addr) (cl : List (Str × Addr)) (fp : List Addr), PG (X.blk s H scope (compEnvC scope cl C X.env) fp) tg g)
    (ht : ∀ (s : Shared) (H : Hp) (C : Addr) (cl : List (Str × Addr)) (fp : List Addr), PTs (X.blk s H scope (compEnvC scope cl C X.env) fp) ifs (liftT X.K W0 tt))
    (he : ∀ (s : Shared) (H : Hp) (C : Addr) (cl : List (Str × Addr)) (fp : List Addr), PE (X.blk s H scope (compEnvC scope cl C X.env) fp) elt (lift X.K W0 te)) (hs : ∀ x, foldedSetIterable iter X.env x = pure x := by intro _; rfl) :
    DE X W (.ListComp elt [⟨tg, iter, ifs, 0⟩] scope pos) (dComp fz (own.map (·.2)) fi gd tt te) := PE.imp (pe_lc hc hN hi ok hg ht he hs) fun σ H Q h => comp_go hct σ H Q h
theorem ds_setLc {i : Nat} {y : Str} {py spos : Pos} (hc : X.calm = true) (hN : X.N.Nodup) (hy : X.N[i]? = some y) (hyl : X.env.scope.names.lookup y = some .local)
    (hsw : swapsWith (.ListComp elt [⟨tg, iter, ifs, 0⟩] scope pos) (some (.Name y py)) spos.line X.env = pure true) (hi : DI X W tg iter fi) (ok : BlkOk X.N X.env.scope scope own) (hct : CT X.K (own.map (·.2)) g gd)
    (hg : ∀ (s : Shared) (H : Hp) (C : Addr) (cl : List (Str × Addr)) (fp : List Addr), PG (X.blk s H scope (compEnvC scope cl C X.env) fp) tg g)
    (ht : ∀ (s : Shared) (H : Hp) (C : Addr) (cl : List (Str × Addr)) (fp : List Addr), PTs (X.blk s H scope (compEnvC scope cl C X.env) fp) ifs (liftT X.K W0 tt))
    (he : ∀ (s : Shared) (H : Hp) (C : Addr) (cl : List (Str × Addr)) (fp : List Addr), PE (X.blk s H scope (compEnvC scope cl C X.env) fp) elt (lift X.K W0 te)) (hs : ∀ x, foldedSetIterable iter X.env x = pure x := by intro _; rfl) :
    DS X W (.Assign [.Name y py] (.ListComp elt [⟨tg, iter, ifs, 0⟩] scope pos) spos) (dAsg (dComp fz (own.map (·.2)) fi gd tt te) (dName i)) := PS.imp (ps_setLc hc hN hy hyl hsw hi ok hg ht he hs) fun Dn σ H ⟨A, n, Γ, μ, Dd, hH, sa, sr, gr, h, l⟩ => by
  subst hH
  exact comp_go (fz := fz) hct σ n.H _ (lift_go sr gr h (fun n' v d μ' s' r' p q => l.nx n' (Γ.set i (some d)) (σ.set i (some v)) μ' (sa.trans s') r' ((gr.step s').set p i) q) (l.x sa gr))
end
end DV

namespace DV
open PySem PySem.Spec PyProof.Rows L2
/-! ### operators: the union of the layer's rules, read on data -/
section
variable {X : Cx} {f : Value → Value → Sem Value} {r r' : R2}
theorem opr_or (h : OpR X f r) (h' : OpR X f r') : OpR X f (fun x y H Q => r x y H Q ∨ r' x y H Q) := by
  intro pins s σ H x y v u Q I rx ry q
  rcases q with q | q
  · exact h pins s σ H x y v u Q I rx ry q
  · exact h' pins s σ H x y v u Q I rx ry q
theorem callr_or {g : Value} {r r' : List V → Hp → VK → Prop} (h : CallR X g r) (h' : CallR X g r') : CallR X g (fun x H Q => r x H Q ∨ r' x H Q) := by
  intro pins s σ H x u Q I rx q
  rcases q with q | q
  · exact h pins s σ H x u Q I rx q
  · exact h' pins s σ H x u Q I rx q
end
/-- flat data -/
def D.flat : D → Bool
  | .non => true | .bl _ => true | .int _ => true | .str _ => true | _ => false
/-- == of flat data -/
def D.eqF : D → D → Bool
  | .non, .non => true
  | .bl a, .bl b => a == b
  | .bl a, .int b => (if a then 1 else 0) == b
  | .int a, .bl b => a == (if b then 1 else 0)
  | .int a, .int b => a == b
  | .str a, .str b => a == b
  | _, _ => false
/-- deep data without dicts: to the library's own, k levels -/
def D.okn : Nat → D → Bool
  | _, .non => true
  | _, .bl _ => true
  | _, .int _ => true
  | _, .str x => PyData.strOk x
  | k + 1, .lst xs => xs.all (D.okn k)
  | k + 1, .tup xs => xs.all (D.okn k)
  | _, _ => false
def D.py : Nat → D → PyData
  | _, .bl b => .bool b
  | _, .int i => .int i
  | _, .str x => .str x
  | k + 1, .lst xs => .list (xs.map (D.py k))
  | k + 1, .tup xs => .tuple (xs.map (D.py k))
  | _, _ => .none
theorem canLayAll0_iff (l : List PyData) : PyData.canLayAll0 l = l.all PyData.canLay0 := by
  induction l with
  | nil => rfl
  | cons a l ih => rw [PyData.canLayAll0, ih]; rfl
theorem depthAll_le (l : List PyData) (k : Nat) (h : ∀ x ∈ l, PyData.depth x ≤ k) : PyData.depthAll l ≤ k := by
  induction l with
  | nil => simp [PyData.depthAll]
  | cons a l ih =>
    rw [PyData.depthAll]
    exact Nat.max_le.mpr ⟨h a (by simp), ih fun x hx => h x (by simp [hx])⟩
theorem okn_lay : ∀ (k : Nat) (d : D), D.okn k d = true → PyData.canLay0 (D.py k d) = true ∧ PyData.depth (D.py k d) ≤ k := by
  intro k
  induction k with
  | zero => intro d h; cases d <;> simp_all [D.okn, D.py, PyData.canLay0, PyData.depth]
  | succ k ih =>
    intro d h
    cases d with
    | lst xs =>
      simp only [D.okn, List.all_eq_true] at h
      simp only [D.py, PyData.canLay0, PyData.depth, canLayAll0_iff]
      refine ⟨?_, Nat.succ_le_succ (depthAll_le _ _ fun x hx => ?_)⟩
      · rw [List.all_eq_true]; intro x hx
        obtain ⟨y, hy, rfl⟩ := List.mem_map.mp hx
        exact (ih y (h y hy)).1
      · obtain ⟨y, hy, rfl⟩ := List.mem_map.mp hx
        exact (ih y (h y hy)).2
    | tup xs =>
      simp only [D.okn, List.all_eq_true] at h
      simp only [D.py, PyData.canLay0, PyData.depth, canLayAll0_iff]
      refine ⟨?_, Nat.succ_le_succ (depthAll_le _ _ fun x hx => ?_)⟩
      · rw [List.all_eq_true]; intro x hx
        obtain ⟨y, hy, rfl⟩ := List.mem_map.mp hx
        exact (ih y (h y hy)).1
      · obtain ⟨y, hy, rfl⟩ := List.mem_map.mp hx
        exact (ih y (h y hy)).2
    | _ => simp_all [D.okn, D.py, PyData.canLay0, PyData.depth]
section
variable {K : PySem.W.Frag} {Hb H : Hp} {al : List Addr}
theorem dp_of (s : Same Hb H) : ∀ (k : Nat) {v : V} {d : D}, Rep K Hb al v d → D.okn k d = true → Dp K H v (D.py k d) := by
  intro k
  induction k with
  | zero => intro v d r h; cases r <;> simp_all [D.okn, D.py] <;> constructor
  | succ k ih =>
    have all : ∀ {vs : List V} {ds : List D}, Reps K Hb al vs ds → ds.all (D.okn k) = true → DpAll K H vs (ds.map (D.py k)) := by
      intro vs
      induction vs with
      | nil => intro ds r _; cases r; exact .nil
      | cons v vs ihv =>
        intro ds r h
        cases r with
        | cons r1 r2 =>
          simp only [List.all_cons, Bool.and_eq_true] at h
          exact .cons (ih r1 h.1) (ihv r2 h.2)
    intro v d r h
    cases r with
    | lst h1 h2 =>
      simp only [D.okn] at h
      exact .lst (SqL.of (s _ _ h1)) (all h2 h)
    | tup h1 h2 =>
      simp only [D.okn] at h
      exact .tup (SqT.of (s _ _ h1)) (all h2 h)
    | non => simp only [D.py]; exact .non
    | bl b => simp only [D.py]; exact .bl b
    | int i => simp only [D.py]; exact .int i
    | str x => simp only [D.py]; exact .str x
    | _ => simp [D.okn] at h
end
/-- a cell that is compared: its list stands in H alone -/
theorem dp_see {K : PySem.W.Frag} {n : Now} {μ : Mu} {v : V} {d : D} (k : Nat) (s : SR0 K n μ) (r : Rep K n.Hb n.al v d) (h : D.okn (k + 1) (lk μ d) = true) : Dp K n.H v (D.py (k + 1) (lk μ d)) := by
  by_cases hr : ∃ l, d = .ref l
  · obtain ⟨l, rfl⟩ := hr
    cases e : lk μ (.ref l) with
    | lst ds =>
      rw [e] at h
      obtain ⟨a, vs, rfl, h1, h2⟩ := see_lst s r e
      have q : Dp K n.H (.ref a) (D.py (k + 1) (.lst ds)) := by
        simp only [D.okn] at h
        refine .lst (SqL.of h1) ?_
        clear e h1 r
        induction vs generalizing ds with
        | nil => cases h2; exact .nil
        | cons v vs ihv =>
          cases h2 with
          | cons r1 r2 =>
            simp only [List.all_cons, Bool.and_eq_true] at h
            exact .cons (dp_of s.same k r1 h.1) (ihv _ h.2 r2)
      exact q
    | ref m => rw [e] at h; simp [D.okn] at h
    | dct m => rw [e] at h; simp [D.okn] at h
    | ins C m => rw [e] at h; simp [D.okn] at h
    | _ =>
      have z := lk_ref e (by simp)
      rcases z with ⟨_, _, q⟩ | ⟨_, _, q⟩ | ⟨_, _, _, q⟩ <;> cases q
  · have e : lk μ d = d := by
      cases d with
      | ref l => exact absurd ⟨l, rfl⟩ hr
      | _ => rfl
    rw [e] at h ⊢
    exact dp_of s.same _ r h
/-- ==, 12 levels deep -/
def deq (μ : Mu) (x y : D) : Bool := PyData.eqv (D.py 12 (lk μ x)) (D.py 12 (lk μ y))
def deqOk (μ : Mu) (x y : D) : Prop := D.okn 12 (lk μ x) = true ∧ D.okn 12 (lk μ y) = true
def gEq : G2 := fun x y μ Q => deqOk μ x y ∧ Q (.bl (deq μ x y)) μ
def gNe : G2 := fun x y μ Q => deqOk μ x y ∧ Q (.bl (!deq μ x y)) μ
theorem shaped_py {d : D} (h : D.okn 12 d = true) : SeqAt.shaped (D.py 12 d) = true := by
  obtain ⟨h1, h2⟩ := okn_lay 12 d h
  unfold SeqAt.shaped
  rw [h1, Bool.true_and, decide_eq_true]
  omega
theorem op_gEq {K : PySem.W.Frag} : Op2 K (rEqD K) gEq := fun n μ x y dx dy Qd Q s rx ry h l =>
  ⟨_, _, dp_see 11 s rx h.1.1, dp_see 11 s ry h.1.2, shaped_py h.1.1, shaped_py h.1.2, l.now s (.bl _) h.2⟩
theorem op_gNe {K : PySem.W.Frag} : Op2 K (rNeD K) gNe := fun n μ x y dx dy Qd Q s rx ry h l =>
  ⟨_, _, dp_see 11 s rx h.1.1, dp_see 11 s ry h.1.2, shaped_py h.1.1, shaped_py h.1.2, l.now s (.bl _) h.2⟩
section
variable {X : Cx} {W : WX} {a b c : Expr} {pos : Pos} {fa fb fc : DTE}
theorem dt_cmp {op : CmpOp} {r : R2} {g : G2} (ho : OpR X (compareOp op) r) (hg : Op2 X.K r g) (ha : DE X W a fa) (hb : DE X W b fb) (hm : behindInMarks op b = false := by rfl) : DT X W (.Compare a [op] [b] pos) (dTest (dBin g fa fb)) := PT.imp (pt_cmpR ho ha hb hm) fun σ H Q ⟨n, Γ, μ, Qd, Ed, hH, sr, gr, h, hq, hx⟩ => by
  subst hH
  unfold tTest
  refine two hg σ n.H _ (lift_go sr gr h (fun n1 x dx μ1 s1 r1 p1 q1 => ?_) hx)
  cases p1 with
  | bl b => exact ⟨b, rfl, hq n1 b μ1 s1 r1 q1⟩
  | _ => exact q1.elim
theorem dt_eq (hu : X.A.units + 64 < cLine) (ha : DE X W a fa) (hb : DE X W b fb) : DT X W (.Compare a [.Eq] [b] pos) (dTest (dBin gEq fa fb)) := dt_cmp (op_eqD hu) op_gEq ha hb (nomark _)
theorem dt_ne (hu : X.A.units + 64 < cLine) (ha : DE X W a fa) (hb : DE X W b fb) : DT X W (.Compare a [.NotEq] [b] pos) (dTest (dBin gNe fa fb)) := dt_cmp (op_neD hu) op_gNe ha hb (nomark _)
theorem de_eq (hu : X.A.units + 64 < cLine) (ha : DE X W a fa) (hb : DE X W b fb) : DE X W (.Compare a [.Eq] [b] pos) (dBin gEq fa fb) := de_cmp (op_eqD hu) op_gEq ha hb (nomark _)
theorem de_ne (hu : X.A.units + 64 < cLine) (ha : DE X W a fa) (hb : DE X W b fb) : DE X W (.Compare a [.NotEq] [b] pos) (dBin gNe fa fb) := de_cmp (op_neD hu) op_gNe ha hb (nomark _)
/-! ### ints -/
def gI (g : Int → Int → D) : G2 := fun x y μ Q => match x, y with
  | .int i, .int j => Q (g i j) μ
  | _, _ => False
theorem op_gI {K : PySem.W.Frag} {gv : Int → Int → V} {gd : Int → Int → D} (h : ∀ K Hb al i j, Rep K Hb al (gv i j) (gd i j)) : Op2 K (rI0 gv) (gI gd) := fun n μ x y dx dy Qd Q s rx ry q l => by
  cases rx with
  | int i =>
    cases ry with
    | int j => exact ⟨i, j, rfl, rfl, l.now s (h _ _ _ i j) q⟩
    | _ => exact q.elim
  | _ => exact q.elim
theorem de_lt (ha : DE X W a fa) (hb : DE X W b fb) : DE X W (.Compare a [.Lt] [b] pos) (dBin (gI fun i j => .bl (decide (i < j))) fa fb) := de_cmp op_lt (op_gI fun _ _ _ _ _ => .bl _) ha hb (nomark _)
theorem de_le (ha : DE X W a fa) (hb : DE X W b fb) : DE X W (.Compare a [.LtE] [b] pos) (dBin (gI fun i j => .bl (decide (i ≤ j))) fa fb) := de_cmp op_le (op_gI fun _ _ _ _ _ => .bl _) ha hb (nomark _)
theorem de_gt (ha : DE X W a fa) (hb : DE X W b fb) : DE X W (.Compare a [.Gt] [b] pos) (dBin (gI fun i j => .bl (decide (j < i))) fa fb) := de_cmp op_gt (op_gI fun _ _ _ _ _ => .bl _) ha hb (nomark _)
theorem de_ge (ha : DE X W a fa) (hb : DE X W b fb) : DE X W (.Compare a [.GtE] [b] pos) (dBin (gI fun i j => .bl (decide (j ≤ i))) fa fb) := de_cmp op_ge (op_gI fun _ _ _ _ _ => .bl _) ha hb (nomark _)
theorem dt_lt (ha : DE X W a fa) (hb : DE X W b fb) : DT X W (.Compare a [.Lt] [b] pos) (dTest (dBin (gI fun i j => .bl (decide (i < j))) fa fb)) := dt_cmp op_lt (op_gI fun _ _ _ _ _ => .bl _) ha hb (nomark _)
theorem dt_le (ha : DE X W a fa) (hb : DE X W b fb) : DT X W (.Compare a [.LtE] [b] pos) (dTest (dBin (gI fun i j => .bl (decide (i ≤ j))) fa fb)) := dt_cmp op_le (op_gI fun _ _ _ _ _ => .bl _) ha hb (nomark _)
theorem dt_gt (ha : DE X W a fa) (hb : DE X W b fb) : DT X W (.Compare a [.Gt] [b] pos) (dTest (dBin (gI fun i j => .bl (decide (j < i))) fa fb)) := dt_cmp op_gt (op_gI fun _ _ _ _ _ => .bl _) ha hb (nomark _)
theorem dt_ge (ha : DE X W a fa) (hb : DE X W b fb) : DT X W (.Compare a [.GtE] [b] pos) (dTest (dBin (gI fun i j => .bl (decide (j ≤ i))) fa fb)) := dt_cmp op_ge (op_gI fun _ _ _ _ _ => .bl _) ha hb (nomark _)
theorem de_sub (ha : DE X W a fa) (hb : DE X W b fb) : DE X W (.BinOp a .Sub b pos) (dBin (gI fun i j => .int (i - j)) fa fb) := de_op op_sub (op_gI fun _ _ _ _ _ => .int _) ha hb
/-- + : ints, texts, lists, tuples -/
def gAdd : G2 := fun x y μ Q => match lk μ x, lk μ y with
  | .int i, .int j => Q (.int (i + j)) μ
  | .str i, .str j => i.length + j.length ≤ sizeLine ∧ Q (.str (i ++ j)) μ
  | .lst i, .lst j => i.length + j.length ≤ sizeLine ∧ Q (.lst (i ++ j)) μ
  | .tup i, .tup j => i.length + j.length ≤ sizeLine ∧ Q (.tup (i ++ j)) μ
  | _, _ => False
theorem lk_int {μ : Mu} {d : D} {i : Int} (h : lk μ d = .int i) : d = .int i := by
  cases d with
  | ref l => rcases lk_ref h (by simp) with ⟨_, _, q⟩ | ⟨_, _, q⟩ | ⟨_, _, _, q⟩ <;> cases q
  | _ => exact h
theorem lk_str {μ : Mu} {d : D} {i : Str} (h : lk μ d = .str i) : d = .str i := by
  cases d with
  | ref l => rcases lk_ref h (by simp) with ⟨_, _, q⟩ | ⟨_, _, q⟩ | ⟨_, _, _, q⟩ <;> cases q
  | _ => exact h
theorem lk_scr {μ : Mu} {d : D} {i : List Int} (h : lk μ d = .scr i) : d = .scr i := by
  cases d with
  | ref l => rcases lk_ref h (by simp) with ⟨_, _, q⟩ | ⟨_, _, q⟩ | ⟨_, _, _, q⟩ <;> cases q
  | _ => exact h
theorem op_gAdd {K : PySem.W.Frag} : Op2 K (fun x y H Q => rI0 (fun i j => .int (i + j)) x y H Q ∨ (∃ i j, x = .str i ∧ y = .str j ∧ i.length + j.length ≤ sizeLine ∧ Q (.str (i ++ j)) H) ∨ rCat x y H Q ∨ rCatA K x y H Q) gAdd := fun n μ x y dx dy Qd Q s rx ry q l => by
  unfold gAdd at q
  split at q
  · rename_i i j e1 e2
    rw [lk_int e1] at rx; rw [lk_int e2] at ry
    cases rx; cases ry
    exact .inl ⟨i, j, rfl, rfl, l.now s (.int _) q⟩
  · rename_i i j e1 e2
    rw [lk_str e1] at rx; rw [lk_str e2] at ry
    cases rx; cases ry
    exact .inr (.inl ⟨i, j, rfl, rfl, q.1, l.now s (.str _) q.2⟩)
  · rename_i i j e1 e2
    obtain ⟨a, vs, rfl, h1, r1⟩ := see_lst s rx e1
    obtain ⟨b, us, rfl, h2, r2⟩ := see_lst s ry e2
    exact .inr (.inr (.inl ⟨a, b, vs, us, rfl, rfl, h1, h2, by rw [r1.length, r2.length]; exact q.1, fun p hp => new_lst l s hp (r1.append r2) q.2⟩))
  · rename_i i j e1 e2
    have o1 : dx = .tup i := by
      cases dx with
      | ref l => rcases lk_ref e1 (by simp) with ⟨_, _, q⟩ | ⟨_, _, q⟩ | ⟨_, _, _, q⟩ <;> cases q
      | _ => exact e1
    have o2 : dy = .tup j := by
      cases dy with
      | ref l => rcases lk_ref e2 (by simp) with ⟨_, _, q⟩ | ⟨_, _, q⟩ | ⟨_, _, _, q⟩ <;> cases q
      | _ => exact e2
    obtain ⟨a, vs, rfl, h1, g1, r1⟩ := see_tup s rx e1
    obtain ⟨b, us, rfl, h2, g2, r2⟩ := see_tup s ry e2
    refine .inr (.inr (.inr ⟨a, b, vs, us, rfl, rfl, SqT.of h1, SqT.of h2, by rw [r1.length, r2.length]; exact q.1, fun z => ?_, fun _ z => ?_, fun _ _ p hp => new_tup l s hp (r1.append r2) q.2⟩))
    · subst z
      cases r1
      exact l.now s (.tup g2 r2) q.2
    · subst z
      cases r2
      exact l.now s (.tup g1 r1) (by simpa using q.2)
  · exact q.elim
theorem de_add (ha : DE X W a fa) (hb : DE X W b fb) : DE X W (.BinOp a .Add b pos) (dBin gAdd fa fb) :=
  de_op (opr_or op_add (opr_or op_add_str (opr_or op_cat op_catA))) op_gAdd ha hb
/-- * : ints (one factor small), a list by a number -/
def gMul : G2 := fun x y μ Q => match lk μ x, lk μ y with
  | .int i, .int j => ((-(2 ^ 64) < i ∧ i < 2 ^ 64) ∨ (-(2 ^ 64) < j ∧ j < 2 ^ 64)) ∧ Q (.int (i * j)) μ
  | .lst i, .int k => (-(2 ^ 63) ≤ k ∧ k < 2 ^ 63 ∧ i.length * k.toNat ≤ sizeLine) ∧ Q (.lst (List.replicate k.toNat i).flatten) μ
  | _, _ => False
theorem reps_rep {K : PySem.W.Frag} {Hb : Hp} {al : List Addr} {vs : List V} {ds : List D} (r : Reps K Hb al vs ds) (k : Nat) : Reps K Hb al (List.replicate k vs).flatten (List.replicate k ds).flatten := by
  induction k with
  | zero => exact .nil
  | succ k ih =>
    simp only [List.replicate_succ, List.flatten_cons]
    exact r.append ih
theorem op_gMul {K : PySem.W.Frag} : Op2 K (fun x y H Q => rI CMul (fun i j => .int (i * j)) x y H Q ∨ rRep x y H Q) gMul := fun n μ x y dx dy Qd Q s rx ry q l => by
  unfold gMul at q
  split at q
  · rename_i i j e1 e2
    rw [lk_int e1] at rx; rw [lk_int e2] at ry
    cases rx; cases ry
    exact .inl ⟨i, j, rfl, rfl, q.1, l.now s (.int _) q.2⟩
  · rename_i i k e1 e2
    obtain ⟨a, vs, rfl, h1, r1⟩ := see_lst s rx e1
    rw [lk_int e2] at ry
    cases ry
    exact .inr ⟨a, k, vs, rfl, rfl, h1, q.1.1, q.1.2.1, by rw [r1.length]; exact q.1.2.2, fun p hp => new_lst l s hp (reps_rep r1 _) q.2⟩
  · exact q.elim
theorem de_mul (ha : DE X W a fa) (hb : DE X W b fb) : DE X W (.BinOp a .Mult b pos) (dBin gMul fa fb) := de_op (opr_or op_mul op_rep) op_gMul ha hb
def gMod : G2 := fun x y μ Q => match x, y with
  | .int i, .int j => j ≠ 0 ∧ Q (.int (i.fmod j)) μ
  | _, _ => False
theorem op_gMod {K : PySem.W.Frag} : Op2 K (rI (fun _ j => j ≠ 0) fun i j => .int (i.fmod j)) gMod := fun n μ x y dx dy Qd Q s rx ry q l => by
  cases rx with
  | int i =>
    cases ry with
    | int j => exact ⟨i, j, rfl, rfl, q.1, l.now s (.int _) q.2⟩
    | _ => exact q.elim
  | _ => exact q.elim
theorem de_mod (ha : DE X W a fa) (hb : DE X W b fb) : DE X W (.BinOp a .Mod b pos) (dBin gMod fa fb) := de_op op_modN op_gMod ha hb
def gFdiv : G2 := fun x y μ Q => match x, y with
  | .int i, .int j => (0 < j ∧ j.natAbs.log2 < 9000) ∧ Q (.int (i / j)) μ
  | _, _ => False
theorem op_gFdiv {K : PySem.W.Frag} : Op2 K (rI CDivW fun i j => .int (i / j)) gFdiv := fun n μ x y dx dy Qd Q s rx ry q l => by
  cases rx with
  | int i =>
    cases ry with
    | int j => exact ⟨i, j, rfl, rfl, q.1, l.now s (.int _) q.2⟩
    | _ => exact q.elim
  | _ => exact q.elim
theorem de_fdiv (ha : DE X W a fa) (hb : DE X W b fb) : DE X W (.BinOp a .FloorDiv b pos) (dBin gFdiv fa fb) := de_op op_fdivW op_gFdiv ha hb
def gPow : G2 := fun x y μ Q => match x, y with
  | .int i, .int j => (0 ≤ j ∧ j ≤ 1000000 ∧ i.natAbs < 2 ^ 64) ∧ Q (.int (i ^ j.toNat)) μ
  | _, _ => False
theorem op_gPow {K : PySem.W.Frag} : Op2 K (rI CPow fun i j => .int (i ^ j.toNat)) gPow := fun n μ x y dx dy Qd Q s rx ry q l => by
  cases rx with
  | int i =>
    cases ry with
    | int j => exact ⟨i, j, rfl, rfl, q.1, l.now s (.int _) q.2⟩
    | _ => exact q.elim
  | _ => exact q.elim
theorem de_pow (ha : DE X W a fa) (hb : DE X W b fb) : DE X W (.BinOp a .Pow b pos) (dBin gPow fa fb) := de_op op_pow op_gPow ha hb
def gNeg : G1 := fun x μ Q => match x with
  | .int i => Q (.int (-i)) μ
  | _ => False
theorem de_neg (ha : DE X W a fa) : DE X W (.UnaryOp .USub a pos) (dUn gNeg fa) := de_un un_neg (fun n μ x dx Qd Q s rx q l => by
  cases rx with
  | int i => exact ⟨i, rfl, l.now s (.int _) q⟩
  | _ => exact q.elim) ha
/-! ### chains of two comparisons of ints -/
def dChain (g g' : Int → Int → Bool) (fa fb fc : DTE) : DTE := fun Γ μ Q E => fa Γ μ (fun x μ1 => fb Γ μ1 (fun y μ2 => match x, y with
  | .int i, .int j => cond (g i j) (fc Γ μ2 (fun z μ3 => match z with | .int k => Q (.bl (g' j k)) μ3 | _ => False) E) (Q (.bl false) μ2)
  | _, _ => False) E) E
theorem de_chain {op op' : CmpOp} {g g' : Int → Int → Bool} (ho : OpR X (compareOp op) (rI0 fun i j => .bl (g i j))) (ho' : OpR X (compareOp op') (rI0 fun i j => .bl (g' i j))) (ha : DE X W a fa) (hb : DE X W b fb) (hc : DE X W c fc)
    (hm : lastMarks [op, op'] [b, c] = false := by with_unfolding_all rfl) : DE X W (.Compare a [op, op'] [b, c] pos) (dChain g g' fa fb fc) := PE.imp (pe_chain ho ho' ha hb hc hm) fun σ H Q ⟨n, Γ, μ, Qd, Ed, hH, sr, gr, h, hq, hx⟩ => by
  subst hH
  refine lift_go sr gr h (fun n1 x dx μ1 s1 r1 p1 q1 => lift_go r1 (gr.step s1) q1 (fun n2 y dy μ2 s2 r2 p2 q2 => ?_) (hx.step s1)) hx
  cases p1 with
  | int i =>
    cases p2 with
    | int j =>
      refine ⟨i, j, rfl, rfl, g i j, rfl, ?_⟩
      dsimp only at q2
      cases e : g i j with
      | false => rw [e] at q2; exact iteF (hq n2 _ _ μ2 (s1.trans s2) r2 (.bl _) q2)
      | true =>
        rw [e] at q2
        refine iteT (lift_go r2 ((gr.step s1).step s2) q2 (fun n3 z dz μ3 s3 r3 p3 q3 => ?_) ((hx.step s1).step s2))
        cases p3 with
        | int k => exact ⟨j, k, rfl, rfl, hq n3 _ _ μ3 ((s1.trans s2).trans s3) r3 (.bl _) q3⟩
        | _ => exact q3.elim
    | _ => exact q2.elim
  | _ => exact q2.elim
theorem dt_chain {op op' : CmpOp} {g g' : Int → Int → Bool} (ho : OpR X (compareOp op) (rI0 fun i j => .bl (g i j))) (ho' : OpR X (compareOp op') (rI0 fun i j => .bl (g' i j))) (ha : DE X W a fa) (hb : DE X W b fb) (hc : DE X W c fc)
    (hm : lastMarks [op, op'] [b, c] = false := by with_unfolding_all rfl) : DT X W (.Compare a [op, op'] [b, c] pos) (dTest (dChain g g' fa fb fc)) := PT.imp (pt_chain ho ho' ha hb hc hm) fun σ H Q ⟨n, Γ, μ, Qd, Ed, hH, sr, gr, h, hq, hx⟩ => by
  subst hH
  unfold tTest tChain
  refine lift_go sr gr h (fun n1 x dx μ1 s1 r1 p1 q1 => lift_go r1 (gr.step s1) q1 (fun n2 y dy μ2 s2 r2 p2 q2 => ?_) (hx.step s1)) hx
  cases p1 with
  | int i =>
    cases p2 with
    | int j =>
      refine ⟨i, j, rfl, rfl, g i j, rfl, ?_⟩
      dsimp only at q2
      cases e : g i j with
      | false => rw [e] at q2; exact iteF ⟨_, rfl, hq n2 _ μ2 (s1.trans s2) r2 q2⟩
      | true =>
        rw [e] at q2
        refine iteT (lift_go r2 ((gr.step s1).step s2) q2 (fun n3 z dz μ3 s3 r3 p3 q3 => ?_) ((hx.step s1).step s2))
        cases p3 with
        | int k => exact ⟨j, k, rfl, rfl, _, rfl, hq n3 _ μ3 ((s1.trans s2).trans s3) r3 q3⟩
        | _ => exact q3.elim
    | _ => exact q2.elim
  | _ => exact q2.elim
/-! ### subscripts -/
def gIx : G2 := fun x y μ Q => match lk μ x, y with
  | .lst xs, .int i => (match atI xs i with | some d => Q d μ | none => False)
  | .tup xs, .int i => (match atI xs i with | some d => Q d μ | none => False)
  | .str z, .int i => z.length ≤ sizeLine ∧ (match atI z.cps.toList i with | some c => Q (.str ⟨#[c]⟩) μ | none => False)
  | _, _ => False
theorem reps_at {K : PySem.W.Frag} {Hb : Hp} {al : List Addr} {vs : List V} {ds : List D} (r : Reps K Hb al vs ds) {i : Int} {d : D} (h : atI ds i = some d) : ∃ v, atI vs i = some v ∧ Rep K Hb al v d := by
  unfold atI at h ⊢
  rw [r.length]
  cases e : ixN ds.length i with
  | none => rw [e] at h; cases h
  | some j => rw [e] at h; exact r.get h
theorem op_gIx {K : PySem.W.Frag} : Op2 K (rIx K) gIx := fun n μ x y dx dy Qd Q s rx ry q l => by
  unfold gIx at q
  split at q
  · rename_i xs i e1
    cases ry
    obtain ⟨a, vs, rfl, h1, r1⟩ := see_lst s rx e1
    split at q
    · rename_i d e
      obtain ⟨v, h2, r2⟩ := reps_at r1 e
      exact .inl ⟨a, vs, i, v, rfl, rfl, SqL.of h1, h2, l.now s r2 q⟩
    · exact q.elim
  · rename_i xs i e1
    cases ry
    obtain ⟨a, vs, rfl, h1, _, r1⟩ := see_tup s rx e1
    split at q
    · rename_i d e
      obtain ⟨v, h2, r2⟩ := reps_at r1 e
      exact .inr (.inl ⟨a, vs, i, v, rfl, rfl, SqT.of h1, h2, l.now s r2 q⟩)
    · exact q.elim
  · rename_i z i e1
    cases ry
    rw [lk_str e1] at rx
    cases rx
    obtain ⟨hz, q⟩ := q
    split at q
    · rename_i c e
      exact .inr (.inr ⟨z, i, c, rfl, rfl, hz, e, l.now s (.str _) q⟩)
    · exact q.elim
  · exact q.elim
theorem de_sub_ (ha : DE X W a fa) (hb : DE X W b fb) (hs : PlainIx b := by exact fun _ _ => rfl) : DE X W (.Subscript a b pos) (dBin gIx fa fb) := de_ix ix_seq op_gIx ha hb hs
end
end DV

namespace DV
open PySem PySem.Spec PyProof.Rows L2
section
variable {X : Cx} {W : WX} {a b c e o : Expr} {es : List Expr} {p pos apos : Pos} {fa fb fc : DTE} {fr : DTA}
/-! ### built-ins of one argument -/
def gLen : GN := fun ds μ Q => match ds with
  | [d] => (match lk μ d with
    | .lst xs => Q (.int xs.length) μ
    | .tup xs => Q (.int xs.length) μ
    | .str z => z.length ≤ sizeLine ∧ Q (.int z.length) μ
    | .dct kvs => Q (.int kvs.length) μ
    | _ => False)
  | _ => False
theorem len_of_maps {α β γ δ : Type} {l : List (α × β)} {m : List (α × γ)} (h : l.map (·.1) = m.map (·.1)) : l.length = m.length := by
  have := congrArg List.length h
  simpa using this
theorem op_gLen {K : PySem.W.Frag} : OpN K (fun xs H Q => (∃ x n, xs = [x] ∧ LenV K x H n ∧ Q (.int n) H) ∨ ∃ a kvs, xs = [V.ref a] ∧ H a = some (.dK kvs) ∧ Q (.int kvs.length) H) gLen := fun n μ xs ds Qd Q s r q l => by
  unfold gLen at q
  split at q
  · cases r with
    | cons r1 r2 =>
      cases r2
      split at q
      · rename_i ys e
        obtain ⟨a, vs, rfl, h1, h2⟩ := see_lst s r1 e
        exact .inl ⟨_, _, rfl, .inl ⟨vs, SqL.of h1, rfl⟩, l.now s (.int _) (by rw [h2.length]; exact q)⟩
      · rename_i ys e
        obtain ⟨a, vs, rfl, h1, _, h2⟩ := see_tup s r1 e
        exact .inl ⟨_, _, rfl, .inr ⟨vs, SqT.of h1, rfl⟩, l.now s (.int _) (by rw [h2.length]; exact q)⟩
      · rename_i z e
        rw [lk_str e] at r1
        cases r1
        exact .inl ⟨_, _, rfl, ⟨q.1, rfl⟩, l.now s (.int _) q.2⟩
      · rename_i kvs e
        obtain ⟨a, us, rfl, h1, h2, h3⟩ := see_dct s r1 e
        have hl : kvs.length = us.length := by simpa using congrArg List.length h2
        exact .inr ⟨a, us, rfl, h1, l.now s (.int _) (by rw [← hl]; exact q)⟩
      · exact q.elim
  · exact q.elim
theorem de_len (hg : Gl X "len") (hm : X.mg "len" = none) (ha : DE X W a fa) (hs : starEach [a] X.env = (false, eval a X.env) :: starEach [] X.env := by rfl) : DE X W (.Call (.Name "len" p) [a] [] pos) (dCall gLen (dCons fa dNil)) :=
  de_callB (callr_or call_len call_lenD) op_gLen hg hm PySem.boot_len (da_cons ha da_nil hs) (he := hs)
def gAbs : GN := fun ds μ Q => match ds with
  | [.int i] => Q (.int (if i < 0 then -i else i)) μ
  | _ => False
theorem de_abs (hg : Gl X "abs") (hm : X.mg "abs" = none) (ha : DE X W a fa) (hs : starEach [a] X.env = (false, eval a X.env) :: starEach [] X.env := by rfl) : DE X W (.Call (.Name "abs" p) [a] [] pos) (dCall gAbs (dCons fa dNil)) :=
  de_callB call_abs (fun n μ xs ds Qd Q s r q l => by
    unfold gAbs at q
    split at q
    · cases r with
      | cons r1 r2 => cases r2; cases r1; exact ⟨_, rfl, l.now s (.int _) q⟩
    · exact q.elim) hg hm (by decide +kernel) (da_cons ha da_nil hs) (he := hs)
def gInt : GN := fun ds μ Q => match ds with
  | [.int i] => Q (.int i) μ
  | [.bl b] => Q (.int (if b then 1 else 0)) μ
  | _ => False
theorem de_intC (hg : Gl X "int") (hm : X.mg "int" = none) (ha : DE X W a fa) (hs : starEach [a] X.env = (false, eval a X.env) :: starEach [] X.env := by rfl) : DE X W (.Call (.Name "int" p) [a] [] pos) (dCall gInt (dCons fa dNil)) :=
  de_callTy call_int1 (fun n μ xs ds Qd Q s r q l => by
    unfold gInt at q
    split at q
    · cases r with
      | cons r1 r2 => cases r2; cases r1; exact .inl ⟨_, rfl, l.now s (.int _) q⟩
    · cases r with
      | cons r1 r2 => cases r2; cases r1; exact .inr ⟨_, rfl, l.now s (.int _) q⟩
    · exact q.elim) hg hm (by decide +kernel) (da_cons ha da_nil hs) (he := hs)
/-- list(x): as data, or as a cell -/
def gList (fz : Bool) : GN := fun ds μ Q => match ds with
  | [d] => (match lk μ d with
    | .lst xs => dFin fz xs μ Q
    | .tup xs => dFin fz xs μ Q
    | .scr ns => dFin fz (ns.map D.int) μ Q
    | _ => False)
  | _ => False
theorem fin_lst {K : PySem.W.Frag} {n : Now} {Qd : D → Mu → Prop} {Q : VK} {fz : Bool} (l : LV K n Qd Q) {μ : Mu} (s : SR0 K n μ) {p : Addr} {vs : List V} {ds : List D} (hp : n.H p = none) (r : Reps K n.Hb n.al vs ds) (q : dFin fz ds μ Qd) : Q (.ref p) (upd n.H p (.lst vs)) := by
  cases fz with
  | true => exact new_lst l s hp r q
  | false => exact new_cell l s hp r q
theorem op_gList {K : PySem.W.Frag} {fz : Bool} : OpN K (fun xs H Q => ∃ p ys, xs = [.ref p] ∧ (SqL K H p ys ∨ SqT K H p ys) ∧ ∀ l, H l = none → Q (.ref l) (upd H l (.lst ys))) (gList fz) := fun n μ xs ds Qd Q s r q l => by
  unfold gList at q
  split at q
  · cases r with
    | cons r1 r2 =>
      cases r2
      split at q
      · rename_i ys e
        obtain ⟨a, vs, rfl, h1, h2⟩ := see_lst s r1 e
        exact ⟨a, vs, rfl, .inl (SqL.of h1), fun p hp => fin_lst l s hp h2 q⟩
      · rename_i ys e
        obtain ⟨a, vs, rfl, h1, _, h2⟩ := see_tup s r1 e
        exact ⟨a, vs, rfl, .inr (SqT.of h1), fun p hp => fin_lst l s hp h2 q⟩
      · rename_i ns e
        rw [lk_scr e] at r1
        cases r1 with
        | scr h1 => exact ⟨_, _, rfl, .inl (s.same.seq h1), fun p hp => fin_lst l s hp (reps_ints ns) q⟩
      · exact q.elim
  · exact q.elim
theorem de_list (fz : Bool) (hg : Gl X "list") (hm : X.mg "list" = none) (ha : DE X W a fa) (hs : starEach [a] X.env = (false, eval a X.env) :: starEach [] X.env := by rfl) : DE X W (.Call (.Name "list" p) [a] [] pos) (dCall (gList fz) (dCons fa dNil)) :=
  de_callTy call_list_of op_gList hg hm (by decide +kernel) (da_cons ha da_nil hs) (he := hs)
def gTuple : GN := fun ds μ Q => match ds with
  | [d] => (match lk μ d with
    | .lst xs => Q (.tup xs) μ
    | .tup xs => Q (.tup xs) μ
    | _ => False)
  | _ => False
theorem op_gTuple {K : PySem.W.Frag} : OpN K (fun xs H Q => ∃ p ys, xs = [.ref p] ∧ ((SqL K H p ys ∧ ∀ l, H l = none → Q (.ref l) (upd H l (.tup ys))) ∨ (SqT K H p ys ∧ Q (.ref p) H))) gTuple := fun n μ xs ds Qd Q s r q l => by
  unfold gTuple at q
  split at q
  · cases r with
    | cons r1 r2 =>
      cases r2
      split at q
      · rename_i ys e
        obtain ⟨a, vs, rfl, h1, h2⟩ := see_lst s r1 e
        exact ⟨a, vs, rfl, .inl ⟨SqL.of h1, fun p hp => new_tup l s hp h2 q⟩⟩
      · rename_i ys e
        obtain ⟨a, vs, rfl, h1, h0, h2⟩ := see_tup s r1 e
        exact ⟨a, vs, rfl, .inr ⟨SqT.of h1, l.now s (.tup h0 h2) q⟩⟩
      · exact q.elim
  · exact q.elim
theorem de_tuple (hg : Gl X "tuple") (hm : X.mg "tuple" = none) (ha : DE X W a fa) (hs : starEach [a] X.env = (false, eval a X.env) :: starEach [] X.env := by rfl) : DE X W (.Call (.Name "tuple" p) [a] [] pos) (dCall gTuple (dCons fa dNil)) :=
  de_callTy call_tuple_of op_gTuple hg hm (by decide +kernel) (da_cons ha da_nil hs) (he := hs)
/-- a list made by +, as a cell -/
def gAddM : G2 := fun x y μ Q => match lk μ x, lk μ y with
  | .lst i, .lst j => i.length + j.length ≤ sizeLine ∧ Q (.ref μ.length) (μ ++ [.lst (i ++ j)])
  | _, _ => False
theorem de_addM (ha : DE X W a fa) (hb : DE X W b fb) : DE X W (.BinOp a .Add b pos) (dBin gAddM fa fb) := de_op op_cat (fun n μ x y dx dy Qd Q s rx ry q l => by
  unfold gAddM at q
  split at q
  · rename_i i j e1 e2
    obtain ⟨a, vs, rfl, h1, r1⟩ := see_lst s rx e1
    obtain ⟨b, us, rfl, h2, r2⟩ := see_lst s ry e2
    exact ⟨a, b, vs, us, rfl, rfl, h1, h2, by rw [r1.length, r2.length]; exact q.1, fun p hp => new_cell l s hp (r1.append r2) q.2⟩
  · exact q.elim) ha hb
/-! ### isinstance against a built-in class -/
inductive Ty where
  | non | bool | int | str | list | tup | dict
  deriving DecidableEq
def Ty.nm : Ty → String
  | .non => "NoneType" | .bool => "bool" | .int => "int" | .str => "str" | .list => "list" | .tup => "tuple" | .dict => "dict"
def Ty.sub (a b : Ty) : Bool := decide (a = b) || (decide (a = .bool) && decide (b = .int))
theorem kit_sub (a b : Ty) (hb : b ≠ .non) : kitB a.nm b.nm = some (a.sub b) := by
  cases b <;> first | exact absurd rfl hb | (cases a <;> decide +kernel)
def tyD : D → Option Ty
  | .non => some .non | .bl _ => some .bool | .int _ => some .int | .str _ => some .str | .lst _ => some .list | .tup _ => some .tup | .dct _ => some .dict | _ => none
theorem ty_of {K : PySem.W.Frag} {n : Now} {μ : Mu} {v : V} {d : D} {t : Ty} (s : SR0 K n μ) (r : Rep K n.Hb n.al v d) (h : tyD (lk μ d) = some t) : TyX K n.H v (.type t.nm) := by
  cases e : lk μ d with
  | lst ds => rw [e] at h; cases h; obtain ⟨a, vs, rfl, h1, _⟩ := see_lst s r e; exact .base (.lst h1)
  | tup ds => rw [e] at h; cases h; obtain ⟨a, vs, rfl, h1, _⟩ := see_tup s r e; exact .base (.tup h1)
  | dct ds => rw [e] at h; cases h; obtain ⟨a, vs, rfl, h1, _⟩ := see_dct s r e; exact .base (.dK h1)
  | int i => rw [e] at h; cases h; rw [lk_int e] at r; cases r; exact .base (.int i)
  | str i => rw [e] at h; cases h; rw [lk_str e] at r; cases r; exact .base (.str i)
  | non =>
    rw [e] at h; cases h
    cases d with
    | ref l => rcases lk_ref e (by simp) with ⟨_, _, q⟩ | ⟨_, _, q⟩ | ⟨_, _, _, q⟩ <;> cases q
    | non => cases r; exact .base .non
    | _ => cases e
  | bl b =>
    rw [e] at h; cases h
    cases d with
    | ref l => rcases lk_ref e (by simp) with ⟨_, _, q⟩ | ⟨_, _, q⟩ | ⟨_, _, _, q⟩ <;> cases q
    | bl b => cases e; cases r; exact .base (.bl _)
    | _ => cases e
  | _ => rw [e] at h; cases h
def dIsi (t : Ty) (f : DTE) : DTE := fun Γ μ Q E => f Γ μ (fun d μ1 => match tyD (lk μ1 d) with
  | some a => Q (.bl (a.sub t)) μ1
  | none => False) E
theorem de_isi {T : Str} {p2 : Pos} (t : Ty) (ht : t ≠ .non) (hg : Gl X "isinstance") (hm : X.mg "isinstance" = none) (ha : DE X W a fa) (hgT : Gl X T) (hmT : X.mg T = none) (hvT : bootBuiltins T = some (.type t.nm)) (hn : T ≠ "__name__" := by decide) (hd : (T == ("__debug__" : Str)) = false := by decide)
    (hs : starEach [a, .Name T p2] X.env = (false, eval a X.env) :: starEach [.Name T p2] X.env := by rfl) (hs2 : starEach [.Name T p2] X.env = (false, eval (.Name T p2) X.env) :: starEach [] X.env := by rfl) (hpl : (backTo pos (starEach [.Name T p2] X.env)).any (·.1) = false := by rfl) :
    DE X W (.Call (.Name "isinstance" p) [a, .Name T p2] [] pos) (dIsi t fa) :=
  PE.imp (pe_callB call_isi hg hm (by decide +kernel) (pa_cons ha (pa_cons (pe_bltn (v := .ty t.nm) hgT hmT hvT rfl hn hd) pa_nil hs2) hs) (by decide) (by decide) hs hpl) fun σ H Q ⟨n, Γ, μ, Qd, Ed, hH, sr, gr, h, hq, hx⟩ => by
  subst hH
  refine lift_go sr gr h (fun n1 x dx μ1 s1 r1 p1 q1 => ?_) hx
  try dsimp only at q1
  split at q1
  · rename_i t' e
    exact ⟨_, _, _, _, _, rfl, .ty _, ty_of r1 p1 e, kit_ty (kit_sub t' t ht), hq n1 _ _ μ1 s1 r1 (.bl _) q1⟩
  · exact q1.elim
/-! ### is None -/
def D.isN : D → Bool
  | .non => true
  | _ => false
theorem isN_of {K : PySem.W.Frag} {Hb : Hp} {al : List Addr} {v : V} {d : D} (r : Rep K Hb al v d) : decide (v = .non) = d.isN := by
  cases r <;> simp [D.isN]
def gIs : G2 := fun x y μ Q => match y with
  | .non => Q (.bl x.isN) μ
  | _ => False
def gIsNot : G2 := fun x y μ Q => match y with
  | .non => Q (.bl (!x.isN)) μ
  | _ => False
theorem op_gIs {K : PySem.W.Frag} : Op2 K (fun x y H Q => y = .non ∧ Q (.bl (decide (x = .non))) H) gIs := fun n μ x y dx dy Qd Q s rx ry q l => by
  cases ry with
  | non => exact ⟨rfl, by rw [isN_of rx]; exact l.now s (.bl _) q⟩
  | _ => exact q.elim
theorem op_gIsNot {K : PySem.W.Frag} : Op2 K (fun x y H Q => y = .non ∧ Q (.bl (!decide (x = .non))) H) gIsNot := fun n μ x y dx dy Qd Q s rx ry q l => by
  cases ry with
  | non => exact ⟨rfl, by rw [isN_of rx]; exact l.now s (.bl _) q⟩
  | _ => exact q.elim
theorem dt_is (ha : DE X W a fa) (hb : DE X W b fb) : DT X W (.Compare a [.Is] [b] pos) (dTest (dBin gIs fa fb)) := dt_cmp op_isN op_gIs ha hb (nomark _)
theorem dt_isnot (ha : DE X W a fa) (hb : DE X W b fb) : DT X W (.Compare a [.IsNot] [b] pos) (dTest (dBin gIsNot fa fb)) := dt_cmp op_notN op_gIsNot ha hb (nomark _)
theorem de_is (ha : DE X W a fa) (hb : DE X W b fb) : DE X W (.Compare a [.Is] [b] pos) (dBin gIs fa fb) := de_cmp op_isN op_gIs ha hb (nomark _)
theorem de_isnot (ha : DE X W a fa) (hb : DE X W b fb) : DE X W (.Compare a [.IsNot] [b] pos) (dBin gIsNot fa fb) := de_cmp op_notN op_gIsNot ha hb (nomark _)
/-! ### in: flat things in a list or tuple, a sign in a text, a key in a dict -/
def inF (x : D) (xs : List D) : Bool := xs.any fun y => D.eqF y x
theorem eqF_of {K : PySem.W.Frag} {Hb : Hp} {al : List Addr} {v u : V} {d e : D} (r : Rep K Hb al v d) (q : Rep K Hb al u e) (h1 : d.flat = true) (h2 : e.flat = true) : eqV v u = D.eqF d e := by
  cases r <;> first | (simp [D.flat] at h1; done) | (cases q <;> first | (simp [D.flat] at h2; done) | rfl)
theorem flat_of {K : PySem.W.Frag} {Hb : Hp} {al : List Addr} {v : V} {d : D} (r : Rep K Hb al v d) (h : d.flat = true) : flatV v = true := by
  cases r <;> first | (simp [D.flat] at h; done) | rfl
theorem inF_of {K : PySem.W.Frag} {Hb : Hp} {al : List Addr} {v : V} {d : D} (r : Rep K Hb al v d) (h : d.flat = true) : ∀ {vs : List V} {ds : List D}, Reps K Hb al vs ds → ds.all D.flat = true → inV v vs = inF d ds ∧ vs.all flatV = true
  | _, _, .nil, _ => ⟨rfl, rfl⟩
  | _, _, .cons r1 r2, q => by
    simp only [List.all_cons, Bool.and_eq_true] at q
    obtain ⟨h1, h2⟩ := inF_of r h r2 q.2
    refine ⟨?_, by simp only [List.all_cons, flat_of r1 q.1, h2, Bool.and_self]⟩
    show (eqV _ v || inV v _) = (D.eqF _ d || inF d _)
    rw [eqF_of r1 r q.1 h, h1]
/-- one sign -/
def sgn (x : Str) : Option Nat := match x.cps.toList with
  | [c] => some c
  | _ => none
theorem sgn_eq {x : Str} {c : Nat} (h : sgn x = some c) : x = ⟨#[c]⟩ := by
  unfold sgn at h
  split at h
  · rename_i e
    cases h
    cases x with
    | mk cps => simp at e; cases cps; simp at e; subst e; rfl
  · cases h
def gIn (neg : Bool) : G2 := fun x y μ Q => match lk μ y with
  | .lst ys => (x.flat = true ∧ ys.all D.flat = true) ∧ Q (.bl (if neg then !inF x ys else inF x ys)) μ
  | .tup ys => (x.flat = true ∧ ys.all D.flat = true) ∧ Q (.bl (if neg then !inF x ys else inF x ys)) μ
  | .str z => (match x with
    | .str w => (match sgn w with | some c => Q (.bl (if neg then !decide (c ∈ z.cps.toList) else decide (c ∈ z.cps.toList))) μ | none => False)
    | _ => False)
  | _ => False
theorem op_gIn {K : PySem.W.Frag} : Op2 K (fun x y H Q => rIn K false x y H Q ∨ ∃ (c : Nat) (z : Str), x = .str ⟨#[c]⟩ ∧ y = .str z ∧ Q (.bl (decide (c ∈ z.cps.toList))) H) (gIn false) := fun n μ x y dx dy Qd Q s rx ry q l => by
  unfold gIn at q
  split at q
  · rename_i ys e
    obtain ⟨a, vs, rfl, h1, h2⟩ := see_lst s ry e
    obtain ⟨g1, g2⟩ := inF_of rx q.1.1 h2 q.1.2
    exact .inl ⟨a, vs, rfl, .inl (SqL.of h1), flat_of rx q.1.1, g2, by rw [g1]; exact l.now s (.bl _) q.2⟩
  · rename_i ys e
    obtain ⟨a, vs, rfl, h1, _, h2⟩ := see_tup s ry e
    obtain ⟨g1, g2⟩ := inF_of rx q.1.1 h2 q.1.2
    exact .inl ⟨a, vs, rfl, .inr (SqT.of h1), flat_of rx q.1.1, g2, by rw [g1]; exact l.now s (.bl _) q.2⟩
  · rename_i z e
    rw [lk_str e] at ry
    cases ry
    split at q
    · cases rx
      split at q
      · rename_i c e2
        exact .inr ⟨c, z, by rw [sgn_eq e2], rfl, l.now s (.bl _) q⟩
      · exact q.elim
    · exact q.elim
  · exact q.elim
theorem op_gNotIn {K : PySem.W.Frag} : Op2 K (fun x y H Q => rIn K true x y H Q ∨ ∃ (c : Nat) (z : Str), x = .str ⟨#[c]⟩ ∧ y = .str z ∧ Q (.bl (!decide (c ∈ z.cps.toList))) H) (gIn true) := fun n μ x y dx dy Qd Q s rx ry q l => by
  unfold gIn at q
  split at q
  · rename_i ys e
    obtain ⟨a, vs, rfl, h1, h2⟩ := see_lst s ry e
    obtain ⟨g1, g2⟩ := inF_of rx q.1.1 h2 q.1.2
    exact .inl ⟨a, vs, rfl, .inl (SqL.of h1), flat_of rx q.1.1, g2, by rw [g1]; exact l.now s (.bl _) q.2⟩
  · rename_i ys e
    obtain ⟨a, vs, rfl, h1, _, h2⟩ := see_tup s ry e
    obtain ⟨g1, g2⟩ := inF_of rx q.1.1 h2 q.1.2
    exact .inl ⟨a, vs, rfl, .inr (SqT.of h1), flat_of rx q.1.1, g2, by rw [g1]; exact l.now s (.bl _) q.2⟩
  · rename_i z e
    rw [lk_str e] at ry
    cases ry
    split at q
    · cases rx
      split at q
      · rename_i c e2
        exact .inr ⟨c, z, by rw [sgn_eq e2], rfl, l.now s (.bl _) q⟩
      · exact q.elim
    · exact q.elim
  · exact q.elim
theorem de_in (ha : DE X W a fa) (hb : DE X W b fb) (hm : behindInMarks .In b = false := by rfl) : DE X W (.Compare a [.In] [b] pos) (dBin (gIn false) fa fb) := de_cmp (opr_or op_in_seq op_in_sign) op_gIn ha hb hm
theorem de_notin (ha : DE X W a fa) (hb : DE X W b fb) (hm : behindInMarks .NotIn b = false := by rfl) : DE X W (.Compare a [.NotIn] [b] pos) (dBin (gIn true) fa fb) := de_cmp (opr_or op_notIn_seq op_notIn_sign) op_gNotIn ha hb hm
theorem dt_in (ha : DE X W a fa) (hb : DE X W b fb) (hm : behindInMarks .In b = false := by rfl) : DT X W (.Compare a [.In] [b] pos) (dTest (dBin (gIn false) fa fb)) := dt_cmp (opr_or op_in_seq op_in_sign) op_gIn ha hb hm
theorem dt_notin (ha : DE X W a fa) (hb : DE X W b fb) (hm : behindInMarks .NotIn b = false := by rfl) : DT X W (.Compare a [.NotIn] [b] pos) (dTest (dBin (gIn true) fa fb)) := dt_cmp (opr_or op_notIn_seq op_notIn_sign) op_gNotIn ha hb hm
/-! ### methods of built-in types -/
def dMeth (g : D → List D → Mu → (D → Mu → Prop) → Prop) (fo : DTE) (fr : DTA) : DTE := fun Γ μ Q E => fo Γ μ (fun x μ1 => fr Γ μ1 (fun xs μ2 => g x xs μ2 Q) E) E
def strD : List D → Option (List Str)
  | [] => some []
  | .str x :: xs => (strD xs).map (x :: ·)
  | _ => none
theorem strD_map (xs : List Str) : strD (xs.map D.str) = some xs := by
  induction xs with
  | nil => rfl
  | cons x xs ih => simp [strD, ih]
theorem strD_eq : ∀ {ds : List D} {xs : List Str}, strD ds = some xs → ds = xs.map D.str
  | [], xs, h => by simp [strD] at h; subst h; rfl
  | .str x :: ds, xs, h => by
    simp only [strD, Option.map_eq_some_iff] at h
    obtain ⟨ys, h1, rfl⟩ := h
    rw [strD_eq h1]; rfl
  | .non :: _, _, h => by simp [strD] at h
  | .bl _ :: _, _, h => by simp [strD] at h
  | .int _ :: _, _, h => by simp [strD] at h
  | .ref _ :: _, _, h => by simp [strD] at h
  | .cls _ :: _, _, h => by simp [strD] at h
  | .scr _ :: _, _, h => by simp [strD] at h
  | .lst _ :: _, _, h => by simp [strD] at h
  | .tup _ :: _, _, h => by simp [strD] at h
  | .dct _ :: _, _, h => by simp [strD] at h
  | .ins _ _ :: _, _, h => by simp [strD] at h
def dJoin (fo fe : DTE) : DTE := fun Γ μ Q E => fo Γ μ (fun x μ1 => (∃ a, x = .str a) ∧ fe Γ μ1 (fun y μ2 => match x with
  | .str a => (match lk μ2 y with
    | .lst ds => (match strD ds with | some ys => (ys.map (·.length)).sum + ys.length * a.length ≤ 16777216 ∧ Q (.str (Txt.join a ys)) μ2 | none => False)
    | .tup ds => (match strD ds with | some ys => (ys.map (·.length)).sum + ys.length * a.length ≤ 16777216 ∧ Q (.str (Txt.join a ys)) μ2 | none => False)
    | _ => False)
  | _ => False) E) E
theorem de_join (ho : DE X W o fa) (he : DE X W e fb) (hs : starEach [e] X.env = [(false, eval e X.env)] := by rfl) (hbase : attributeBase o "join" X.env (eval o X.env) = eval o X.env := by rfl) (hline : (apos.endLine == pos.line) = true := by rfl) :
    DE X W (.Call (.Attribute o "join" apos) [e] [] pos) (dJoin fa fb) := PE.imp (pe_join ho he hs hbase hline) fun σ H Q ⟨n, Γ, μ, Qd, Ed, hH, sr, gr, h, hq, hx⟩ => by
  subst hH
  refine lift_go sr gr h (fun n1 x dx μ1 s1 r1 p1 q1 => ?_) hx
  obtain ⟨⟨z, rfl⟩, q1⟩ := q1
  cases p1
  refine ⟨⟨z, rfl⟩, lift_go r1 (gr.step s1) q1 (fun n2 y dy μ2 s2 r2 p2 q2 => ?_) (hx.step s1)⟩
  dsimp only at q2
  split at q2
  · rename_i ds e
    split at q2
    · rename_i ys e2
      obtain ⟨a, vs, rfl, h1, h2⟩ := see_lst r2 p2 e
      rw [strD_eq e2] at h2
      have e3 := Reps.strs ys h2
      subst e3
      exact ⟨z, a, ys, rfl, rfl, .inl (SqL.of h1), q2.1, hq n2 _ _ μ2 (s1.trans s2) r2 (.str _) q2.2⟩
    · exact q2.elim
  · rename_i ds e
    split at q2
    · rename_i ys e2
      obtain ⟨a, vs, rfl, h1, _, h2⟩ := see_tup r2 p2 e
      rw [strD_eq e2] at h2
      have e3 := Reps.strs ys h2
      subst e3
      exact ⟨z, a, ys, rfl, rfl, .inr (SqT.of h1), q2.1, hq n2 _ _ μ2 (s1.trans s2) r2 (.str _) q2.2⟩
    · exact q2.elim
  · exact q2.elim
/-- a list's own method that writes: on a cell -/
def dCellM (g : List D → List D → Option (D × List D)) (fo : DTE) (fr : DTA) : DTE := fun Γ μ Q E => fo Γ μ (fun x μ1 => match x with
  | .ref l => (match μ1[l]? with
    | some (.lst _) => fr Γ μ1 (fun vs μ2 => match μ2[l]? with
      | some (.lst xs) => (match g xs vs with | some (d, ys) => Q d (μ2.set l (.lst ys)) | none => False)
      | _ => False) E
    | _ => False)
  | _ => False) E
def CellOp (K : PySem.W.Frag) (r : V → List V → Hp → VK → Prop) (g : List D → List D → Option (D × List D)) : Prop := ∀ Hb al H p (us vs : List V) (xs ds : List D) d ys (Q : VK), H p = some (.lst us) → Reps K Hb al us xs → Reps K Hb al vs ds → g xs ds = some (d, ys) →
  (∀ v ws, Rep K Hb al v d → Reps K Hb al ws ys → Q v (upd H p (.lst ws))) → r (.ref p) vs H Q
theorem cellm_go {K : PySem.W.Frag} {r : V → List V → Hp → VK → Prop} {g : List D → List D → Option (D × List D)} (hg : CellOp K r g) (σ : L2.St) (H : Hp) (Q : VK) (h : lift K W (dCellM g fa fr) σ H Q) : tBM K "list" r (lift K W fa) (liftA K W fr) σ H Q := by
  obtain ⟨n, Γ, μ, Qd, Ed, hH, sr, gr, h, hq, hx⟩ := h
  subst hH
  refine lift_go sr gr h (fun n1 x dx μ1 s1 r1 p1 q1 => ?_) hx
  cases p1 with
  | @ref l a hl =>
    dsimp only at q1
    split at q1
    · rename_i ys e
      obtain ⟨_, vs, h1, h2⟩ := r1.cell _ _ _ hl e
      refine ⟨.inl ⟨rfl, vs, SqL.of h1⟩, liftA_go r1 (gr.step s1) q1 (fun n2 vs2 ds2 μ2 s2 r2 p2 q2 => ?_) (hx.step s1)⟩
      try dsimp only at q2
      split at q2
      · rename_i xs e2
        have hl2 := pre_get s2.pre hl
        obtain ⟨hb, us, g1, g2⟩ := r2.cell _ _ _ hl2 e2
        split at q2
        · rename_i d zs e3
          refine hg n2.Hb n2.al n2.H a us vs2 xs ds2 d zs Q g1 g2 p2 e3 fun v ws rv rw' => ?_
          exact hq (n2.more a (.lst ws)) v d _ ((s1.trans s2).trans (Step.write hl2)) (r2.write hl2 hb (c := .lst zs) ⟨hb, ws, upd_same, rw'⟩ (fun k z => by cases z)) rv q2
        · exact q2.elim
      · exact q2.elim
    · exact q1.elim
  | _ => exact q1.elim
def cAppend : List D → List D → Option (D × List D) := fun xs ds => match ds with
  | [d] => if xs.length < sizeLine then some (.non, xs ++ [d]) else none
  | _ => none
theorem op_append {K : PySem.W.Frag} : CellOp K rAppend cAppend := fun Hb al H p us vs xs ds d ys Q hp r1 r2 hg k => by
  unfold cAppend at hg
  split at hg
  · split at hg
    · rename_i hl
      cases hg
      cases r2 with
      | cons q1 q2 =>
        cases q2
        exact ⟨p, us, _, rfl, rfl, hp, by rw [r1.length]; exact hl, k _ _ .non (r1.append (.cons q1 .nil))⟩
    · cases hg
  · cases hg
def cPop : List D → List D → Option (D × List D) := fun xs ds => match ds with
  | [.int i] => if -(2 ^ 63) ≤ i ∧ i < 2 ^ 63 then (match seqIndex? i xs.length with
    | some k => (xs[k]?).map fun y => (y, xs.eraseIdx k)
    | none => none) else none
  | _ => none
theorem op_popAt {K : PySem.W.Frag} : CellOp K rPopAt cPop := fun Hb al H p us vs xs ds d ys Q hp r1 r2 hg k => by
  unfold cPop at hg
  split at hg
  · split at hg
    · rename_i i hb
      split at hg
      · rename_i j e
        rw [Option.map_eq_some_iff] at hg
        obtain ⟨y, e2, e3⟩ := hg
        cases e3
        obtain ⟨v, h1, h2⟩ := r1.get e2
        cases r2 with
        | cons q1 q2 =>
          cases q2; cases q1
          exact ⟨p, us, i, j, v, rfl, rfl, hp, hb.1, hb.2, by rw [r1.length]; exact e, h1, k _ _ h2 (r1.eraseIdx j)⟩
      · cases hg
    · cases hg
  · cases hg
def cInsert : List D → List D → Option (D × List D) := fun xs ds => match ds with
  | [.int i, d] => if xs.length < sizeLine ∧ 0 ≤ i ∧ i < 2 ^ 63 then some (.non, xs.take i.toNat ++ [d] ++ xs.drop i.toNat) else none
  | _ => none
theorem de_append (ho : DE X W o fa) (ha : DE X W e fb) (hbase : attributeBase o "append" X.env (eval o X.env) = eval o X.env := by rfl)
    (hfew : ((backTo pos (starEach [e] X.env)).all (fun x => !x.1) && (backToKw pos (keywordEach [] X.env)).all (fun x => x.1.isSome) && decide ([e].length + ([] : List Keyword).length + (if ([] : List Keyword).isEmpty then 0 else 1) < 30)) = true := by rfl)
    (hline : (apos.endLine == pos.line) = true := by rfl) (hs : starEach [e] X.env = (false, eval e X.env) :: starEach [] X.env := by rfl) (hpl : (backTo pos (starEach [] X.env)).any (·.1) = false := by rfl) :
    DE X W (.Call (.Attribute o "append" apos) [e] [] pos) (dCellM cAppend fa (dCons fb dNil)) :=
  PE.imp (pe_bm PySem.F.plainAttrs_list PySem.F.slot_list_append PySem.F.type_list_append mt_append ho (da_cons ha da_nil hs) hbase hfew hline hs hpl) fun σ H Q h => cellm_go op_append σ H Q h
theorem de_popAt (ho : DE X W o fa) (ha : DE X W e fb) (hbase : attributeBase o "pop" X.env (eval o X.env) = eval o X.env := by rfl)
    (hfew : ((backTo pos (starEach [e] X.env)).all (fun x => !x.1) && (backToKw pos (keywordEach [] X.env)).all (fun x => x.1.isSome) && decide ([e].length + ([] : List Keyword).length + (if ([] : List Keyword).isEmpty then 0 else 1) < 30)) = true := by rfl)
    (hline : (apos.endLine == pos.line) = true := by rfl) (hs : starEach [e] X.env = (false, eval e X.env) :: starEach [] X.env := by rfl) (hpl : (backTo pos (starEach [] X.env)).any (·.1) = false := by rfl) :
    DE X W (.Call (.Attribute o "pop" apos) [e] [] pos) (dCellM cPop fa (dCons fb dNil)) :=
  PE.imp (pe_bm PySem.F.plainAttrs_list PySem.F.slot_list_pop PySem.F.type_list_pop mt_popAt ho (da_cons ha da_nil hs) hbase hfew hline hs hpl) fun σ H Q h => cellm_go op_popAt σ H Q h
/-! ### x[i] = v on a cell -/
def dSetI (fo fi : DTE) : DTG := fun d Γ μ Q E => fo Γ μ (fun x μ1 => fi Γ μ1 (fun i μ2 => match x, i with
  | .ref l, .int k => (match μ2[l]? with
    | some (.lst xs) => (match ixN xs.length k with | some j => Q Γ (μ2.set l (.lst (xs.set j d))) | none => False)
    | _ => False)
  | _, _ => False) E) E
theorem dg_setI {i : Expr} (ho : DE X W o fa) (hi : DE X W i fb) (h : PG X (.Subscript o i pos) (gSub (lift X.K W fa) (lift X.K W fb) rSetL)) : DG X W (.Subscript o i pos) (dSetI fa fb) := PG.imp h fun v σ H Q ⟨n, d, Γ, μ, Qd, Ed, hH, sr, gr, rp, h, hq, hx⟩ => by
  subst hH
  refine lift_go sr gr h (fun n1 x dx μ1 s1 r1 p1 q1 => lift_go r1 (gr.step s1) q1 (fun n2 y dy μ2 s2 r2 p2 q2 => ?_) (hx.step s1)) hx
  cases p1 with
  | @ref l a hl =>
    cases p2 with
    | int k =>
      dsimp only at q2
      split at q2
      · rename_i xs e
        split at q2
        · rename_i j e2
          have hl2 := pre_get s2.pre hl
          obtain ⟨hb, us, g1, g2⟩ := r2.cell _ _ _ hl2 e
          refine ⟨a, us, k, j, rfl, rfl, g1, by rw [g2.length]; exact e2, ?_⟩
          exact hq (n2.more a (.lst (us.set j v))) Γ σ _ ((s1.trans s2).trans (Step.write hl2)) (r2.write hl2 hb (c := .lst (xs.set j d)) ⟨hb, _, upd_same, Reps.set ((s1.trans s2).rep rp) j g2⟩ (fun k z => by cases z)) ((gr.step (s1.trans s2)).step (Step.write hl2)) q2
        · exact q2.elim
      · exact q2.elim
    | _ => exact q2.elim
  | _ => exact q2.elim
end
end DV

namespace DV
open PySem PySem.Spec PyProof.Rows L2
/-! ### slices -/
def cutL {α : Type} (xs : List α) (lo hi : Option Int) : List α := (xs.drop (HT.sIx xs.length 0 lo)).take (HT.sIx xs.length xs.length hi - HT.sIx xs.length 0 lo)
theorem reps_cut {K : PySem.W.Frag} {Hb : Hp} {al : List Addr} {vs : List V} {ds : List D} (r : Reps K Hb al vs ds) (lo hi : Option Int) : Reps K Hb al (cutV vs lo hi) (cutL ds lo hi) := by
  unfold cutV cutL
  rw [r.length]
  exact (r.drop _).take _
abbrev DTO := Gam → Mu → (Option Int → Mu → Prop) → (Exn → Mu → Prop) → Prop
def dNoPart : DTO := fun _ μ Q _ => Q none μ
def dPart (f : DTE) : DTO := fun Γ μ Q E => f Γ μ (fun d μ1 => match d with | .int i => Q (some i) μ1 | _ => False) E
def liftO (K : PySem.W.Frag) (W : WX) (f : DTO) : TO := fun σ H Q => ∃ n Γ μ Qd Ed, n.H = H ∧ SR0 K n μ ∧ GR K n Γ σ ∧ f Γ μ Qd Ed ∧
  (∀ n' o μ', Step n n' → SR0 K n' μ' → Qd o μ' → Q o n'.H) ∧ XLink K W n Γ σ Ed
def dSlice (fz : Bool) (f : DTE) (lo hi : DTO) : DTE := fun Γ μ Q E => f Γ μ (fun d μ1 => lo Γ μ1 (fun l μ2 => hi Γ μ2 (fun h μ3 => match lk μ3 d with
  | .lst xs => dFin fz (cutL xs l h) μ3 Q
  | .tup xs => Q (.tup (cutL xs l h)) μ3
  | .str z => z.length ≤ sizeLine ∧ Q (.str (cutS z l h)) μ3
  | _ => False) E) E) E
theorem cut_whole {α : Type} (xs : List α) (lo hi : Option Int) (h : HT.sIx xs.length 0 lo = 0 ∧ HT.sIx xs.length xs.length hi = xs.length) : cutL xs lo hi = xs := by
  unfold cutL
  rw [h.1, h.2]; simp
section
variable {X : Cx} {W : WX} {a e o i : Expr} {lo hi : Option Expr} {p2 pos : Pos} {fa fb fc : DTE} {fl fh : DTO}
theorem do_none : PO X none (liftO X.K W dNoPart) := ⟨fun pins s σ H Q I ⟨n, Γ, μ, Qd, Ed, hH, sr, gr, h, hq, hx⟩ => by
  subst hH
  exact (po_none (X := X)).run pins s σ n.H Q I (hq n none μ (Step.refl n) sr h)⟩
theorem do_some (h : DE X W e fa) : PO X (some e) (liftO X.K W (dPart fa)) := ⟨fun pins s σ H Q I ⟨n, Γ, μ, Qd, Ed, hH, sr, gr, hd, hq, hx⟩ => by
  subst hH
  refine (po_some h).run pins s σ n.H Q I (lift_go sr gr hd (fun n1 x dx μ1 s1 r1 p1 q1 => ?_) hx)
  cases p1 with
  | int j => exact ⟨j, rfl, hq n1 _ μ1 s1 r1 q1⟩
  | _ => exact q1.elim⟩
theorem de_slice (fz : Bool) (he : DE X W e fa) (hl : PO X lo (liftO X.K W fl)) (hu : PO X hi (liftO X.K W fh)) : DE X W (.Subscript e (.Slice lo hi none p2) pos) (dSlice fz fa fl fh) :=
  PE.imp (pe_slice (SlR.or sl_list (SlR.or sl_tupA sl_str)) he hl hu) fun σ H Q ⟨n, Γ, μ, Qd, Ed, hH, sr, gr, h, hq, hx⟩ => by
  subst hH
  refine lift_go sr gr h (fun n1 x dx μ1 s1 r1 p1 q1 => ⟨n1, Γ, μ1, _, _, rfl, r1, gr.step s1, q1, fun n2 l μ2 s2 r2 q2 => ⟨n2, Γ, μ2, _, _, rfl, r2, (gr.step s1).step s2, q2, fun n3 h μ3 s3 r3 q3 => ?_, (hx.step s1).step s2⟩, hx.step s1⟩) hx
  have st := (s1.trans s2).trans s3
  have p3 := (s2.trans s3).rep p1
  try dsimp only at q3
  split at q3
  · rename_i xs e
    obtain ⟨a, vs, rfl, h1, h2⟩ := see_lst r3 p3 e
    exact .inl ⟨a, vs, rfl, SqL.of h1, fun p hp => fin_lst (LV.step hq st) r3 hp (reps_cut h2 l h) q3⟩
  · rename_i xs e
    obtain ⟨a, vs, rfl, h1, h0, h2⟩ := see_tup r3 p3 e
    refine .inr (.inl ⟨a, vs, rfl, SqT.of h1, fun z => ?_, fun z p hp => new_tup (LV.step hq st) r3 hp (reps_cut h2 l h) q3⟩)
    rw [h2.length] at z
    rw [cut_whole xs l h z] at q3
    exact hq n3 _ _ μ3 st r3 (.tup h0 h2) q3
  · rename_i z e
    rw [lk_str e] at p3
    cases p3
    exact .inr (.inr ⟨z, rfl, q3.1, hq n3 _ _ μ3 st r3 (.str _) q3.2⟩)
  · exact q3.elim
/-- a list turned about -/
def dRev (fz : Bool) (f : DTE) : DTE := fun Γ μ Q E => f Γ μ (fun d μ1 => match lk μ1 d with
  | .lst xs => dFin fz xs.reverse μ1 Q
  | _ => False) E
theorem de_rev (fz : Bool) {k : Nat} {q1 q2 q3 : Pos} (he : DE X W e fa) : DE X W (.Subscript e (.Slice none none (some (.UnaryOp .USub (.Constant (.int 1) k q1) q2)) q3) pos) (dRev fz fa) :=
  PE.imp (pe_revL he) fun σ H Q ⟨n, Γ, μ, Qd, Ed, hH, sr, gr, h, hq, hx⟩ => by
  subst hH
  refine lift_go sr gr h (fun n1 x dx μ1 s1 r1 p1 q1 => ?_) hx
  try dsimp only at q1
  split at q1
  · rename_i xs e
    obtain ⟨a, vs, rfl, h1, h2⟩ := see_lst r1 p1 e
    exact ⟨a, vs, rfl, SqL.of h1, fun p hp => fin_lst (LV.step hq s1) r1 hp h2.reverse q1⟩
  · exact q1.elim
/-! ### x[i] += e, on a cell -/
theorem pget_list : PGet X (fun o i H Q => ∃ p xs k v, o = .ref p ∧ i = .int k ∧ SqL X.K H p xs ∧ 0 ≤ k ∧ xs[k.toNat]? = some v ∧ Q v H) := by
  intro pins s σ H o i ov iv Q I ro ri h
  obtain ⟨p, xs, k, v, rfl, rfl, hq, h0, he, q⟩ := h
  cases ro
  obtain ⟨t, rfl⟩ := ri
  obtain ⟨its, r, pl, hz⟩ := I.list hq
  obtain ⟨u, eu, ru⟩ := r.get he
  have hl := r.length
  have hn := line63
  have hk : k.toNat < xs.length := (List.getElem?_eq_some_iff.mp he).1
  exact wpAny_getItem_list pl.isList h0 (by omega) (by simpa using eu) ⟨v, H, I, ru, q⟩
def dAugI (g : Int → Int → Int) (fo fi fe : DTE) : DTS := fun D Γ μ => fo Γ μ (fun x μ1 => fi Γ μ1 (fun i μ2 => match x, i with
  | .ref l, .int k => 0 ≤ k ∧ (match μ2[l]? with
    | some (.lst xs) => (match xs[k.toNat]? with
      | some (.int old) => fe Γ μ2 (fun y μ3 => match y with
        | .int b => (match μ3[l]? with
          | some (.lst ys) => k.toNat < ys.length ∧ D.nx Γ (μ3.set l (.lst (ys.set k.toNat (.int (g old b)))))
          | _ => False)
        | _ => False) (fun x μ1 => D.ex x Γ μ1)
      | _ => False)
    | _ => False)
  | _, _ => False) (fun x μ1 => D.ex x Γ μ1)) (fun x μ1 => D.ex x Γ μ1)
theorem ds_augI {g : Int → Int → Int} {op : Operator} {tpos : Pos} (ho : DE X W o fa) (hi : DE X W i fb) (he : DE X W e fc) (hp : PIp X op (ipI g)) (ha : ∀ ov iv new, augStore i ov iv new = (do holding [new, ov, iv] (setItem ov iv new); release [new, ov, iv] []; pure .next) := by intros; rfl) :
    DS X W (.AugAssign (.Subscript o i tpos) op e pos) (dAugI g fa fb fc) := PS.imp (ps_augS ho hi pget_list he hp set_list ha) fun Dn σ H ⟨A, n, Γ, μ, Dd, hH, sa, sr, gr, h, l⟩ => by
  subst hH
  have hx := l.x sa gr
  refine lift_go sr gr h (fun n1 x dx μ1 s1 r1 p1 q1 => lift_go r1 (gr.step s1) q1 (fun n2 y dy μ2 s2 r2 p2 q2 => ?_) (hx.step s1)) hx
  cases p1 with
  | @ref m a hl =>
    cases p2 with
    | int k =>
      obtain ⟨h0, q2⟩ := q2
      split at q2
      · rename_i xs e
        split at q2
        · rename_i old e2
          have hl2 := pre_get s2.pre hl
          obtain ⟨hb, us, g1, g2⟩ := r2.cell _ _ _ hl2 e
          obtain ⟨v, e3, e4⟩ := g2.get e2
          refine ⟨a, us, k, v, rfl, rfl, SqL.of g1, h0, e3, ?_⟩
          refine lift_go r2 ((gr.step s1).step s2) q2 (fun n3 z dz μ3 s3 r3 p3 q3 => ?_) ((hx.step s1).step s2)
          cases p3 with
          | int b =>
            cases e4
            refine ⟨old, b, rfl, rfl, ?_⟩
            dsimp only at q3
            split at q3
            · rename_i ys e5
              have hl3 := pre_get s3.pre hl2
              obtain ⟨hb3, ws, g3, g4⟩ := r3.cell _ _ _ hl3 e5
              refine ⟨a, ws, k, k.toNat, rfl, rfl, g3, ?_, ?_⟩
              · unfold ixN
                rw [if_pos h0, if_pos (by rw [g4.length]; omega)]
              · have st := ((sa.trans s1).trans s2).trans s3
                exact l.nx (n3.more a (.lst (ws.set k.toNat (.int (g old b))))) Γ σ _ (st.trans (Step.write hl3)) (r3.write hl3 hb3 (c := .lst (ys.set k.toNat (.int (g old b)))) ⟨hb3, _, upd_same, Reps.set (.int _) _ g4⟩ (fun k z => by cases z)) ((((gr.step s1).step s2).step s3).step (Step.write hl3)) q3.2
            · exact q3.elim
          | _ => exact q3.elim
        · exact q2.elim
      · exact q2.elim
    | _ => exact q2.elim
  | _ => exact q2.elim
/-! ### tests by truth -/
def truD : D → Option Bool
  | .non => some false
  | .bl b => some b
  | .int i => some (i != 0)
  | .lst xs => some (!xs.isEmpty)
  | .tup xs => some (!xs.isEmpty)
  | .dct kvs => some (!kvs.isEmpty)
  | _ => none
def dTruth (f : DTE) : DTT := fun Γ μ Q E => f Γ μ (fun d μ1 => match lk μ1 d with
  | .str z => z.length ≤ sizeLine ∧ Q ((z.length : Int) != 0) μ1
  | d' => (match truD d' with | some b => Q b μ1 | none => False)) E
end
end DV

namespace DV
open PySem PySem.Spec PyProof.Rows L2
def pick {α : Type} (π : List Nat) (l : List α) : List α := π.filterMap (l[·]?)
section
variable {K : PySem.W.Frag} {Hb : Hp} {al : List Addr}
theorem Reps.getN : ∀ {vs : List V} {ds : List D} {i : Nat}, Reps K Hb al vs ds → ds[i]? = none → vs[i]? = none := fun {vs ds i} r e => by
  have h1 := r.length
  have h2 : ds.length ≤ i := List.getElem?_eq_none_iff.mp e
  exact List.getElem?_eq_none_iff.mpr (by omega)
theorem Reps.pick {vs : List V} {ds : List D} (r : Reps K Hb al vs ds) : ∀ π : List Nat, Reps K Hb al (DV.pick π vs) (DV.pick π ds)
  | [] => .nil
  | i :: π => by
    have ih := Reps.pick r π
    unfold DV.pick at ih ⊢
    cases e : ds[i]? with
    | none => rw [List.filterMap_cons_none e, List.filterMap_cons_none (r.getN e)]; exact ih
    | some d =>
      obtain ⟨v, h1, h2⟩ := r.get e
      rw [List.filterMap_cons_some e, List.filterMap_cons_some h1]
      exact .cons h2 ih
end
theorem vals_pick {vs : List V} {us : List Value} (r : Vals vs us) : ∀ π : List Nat, Vals (pick π vs) (pick π us)
  | [] => .nil
  | i :: π => by
    have ih := vals_pick r π
    unfold pick at ih ⊢
    cases e : vs[i]? with
    | none => rw [List.filterMap_cons_none e, List.filterMap_cons_none (Vals.none_of r e)]; exact ih
    | some d =>
      obtain ⟨v, h1, h2⟩ := Vals.get r e
      rw [List.filterMap_cons_some e, List.filterMap_cons_some h1]
      exact .cons h2 ih
/-- how positional arguments (np of them) and keywords ks come to the parameters ps: by places -/
def KBd (K : PySem.W.Frag) (fd : FuncData) (ps : List Str) (np : Nat) (ks : List Str) (π : List Nat) : Prop :=
  ∀ (s : Shared) (us ws : List Value), K.In s.heap → us.length = np → ws.length = ks.length → BindsTo s fd ⟨us, ks.zip ws⟩ (ps.zip (pick π (us ++ ws)))
section
variable {X : Cx} {W : WX} {k : Nat} {f : Addr} {fd : FuncData} {ps ks : List Str} {S : DSp} {x : Str} {p pos kpos : Pos} {e : Expr} {es : List Expr} {kws : List Keyword} {fa : DTE} {fr fk : DTA} {nm : Option Str} {π : List Nat} {np : Nat}
theorem run_deep {pins : List (Addr × Obj)} {σ : L2.St} {H : Hp} {s : Shared} {Q : VK} {us ws : List Value} {kw : List (Str × Value)} {vs : List V} (F : FnOk X.prog X.w X.K X.mg X.base (L2.CX X.prog X.w) k f fd ps (spOf X.K S)) (hr : Room k X.A) (tk : Takes X W)
    (I : Inv X pins σ H s) (hb : BindsTo s fd ⟨us, kw⟩ (ps.zip ws)) (r : Vals vs ws) (h : spOf X.K S vs H Q (WE W σ)) : wpAny (model X.prog X.w) X.A (call (.ref f) us kw) (EP X pins σ Q) X.xe s := by
  refine wpAny_call (codeAny_mono (F.run X.A X.stack s H ⟨us, kw⟩ ws vs Q (WE W σ) hr I.env0 hb r h) ?_)
  intro res s' hq
  match res, hq with
  | .error e, hq => exact passAt tk σ pins H s e s' I hq
  | .ok (.ret u), hq => exact I.after hq
theorem de_call0 (F : FnOk X.prog X.w X.K X.mg X.base (L2.CX X.prog X.w) k f fd [] (spOf X.K S)) (hr : Room k X.A) (hg : Gl X x) (hm : X.mg x = some (.ref f)) (hk : PySem.W.keepIn X.K (.ref f) = true) (hb : Binds X.K fd [] []) (tk : Takes X W) (hdb : (x == ("__debug__" : Str)) = false := by decide) :
    DE X W (.Call (.Name x p) [] [] pos) (dOp S dNil) := by
  refine ⟨fun pins s σ H Q I ⟨n, Γ, μ, Qd, Ed, hH, sr, gr, h, hq, hx⟩ => ?_⟩
  subst hH
  refine wpAny_Call_Name_kw (ld_glob I hg hm ?_ hdb)
  exact PySem.W.callWith_K0 I.kIn hk (run_deep (ws := []) F hr tk I (hb s [] I.kIn rfl) .nil ⟨n, [], μ, Qd, Ed, rfl, sr, .nil, h, hq, fun n' cls dd y μ' s' r' => hx n' cls dd y μ' s' r'⟩)
abbrev DK (X : Cx) (W : WX) (kws : List Keyword) (f : DTA) : Prop := PK X kws (liftA X.K W f)
theorem PK.imp {t t' : TA} (h : PK X kws t) (hi : ∀ σ H Q, t' σ H Q → t σ H Q) : PK X kws t' := ⟨fun pos pins s σ H Q I q => h.run pos pins s σ H Q I (hi _ _ _ q)⟩
theorem dk_nil : DK X W [] dNil := PK.imp pk_nil fun σ H Q ⟨n, Γ, μ, Qd, Ed, hH, sr, gr, h, hq, hx⟩ => by
  subst hH
  exact hq n [] [] μ (Step.refl n) sr .nil h
theorem dk_cons (ha : DE X W e fa) (hr : DK X W kws fr) : DK X W (⟨nm, e, kpos⟩ :: kws) (dCons fa fr) := PK.imp (pk_cons ha hr) fun σ H Q ⟨n, Γ, μ, Qd, Ed, hH, sr, gr, h, hq, hx⟩ => by
  subst hH
  refine lift_go sr gr h (fun n1 x dx μ1 s1 r1 p1 q1 => liftA_go r1 (gr.step s1) q1 (fun n2 y dy μ2 s2 r2 p2 q2 => ?_) (hx.step s1)) hx
  exact hq n2 _ _ μ2 (s1.trans s2) r2 (.cons (s2.rep p1) p2) q2
/-- f(e, .., k = v, ..): the arguments by the places π -/
def dOpK (S : DSp) (π : List Nat) (np nk : Nat) (fr fk : DTA) : DTE := fun Γ μ Q E => fr Γ μ (fun xs μ1 => xs.length = np ∧ fk Γ μ1 (fun ys μ2 => ys.length = nk ∧ S (pick π (xs ++ ys)) μ2 Q E) E) E
theorem de_callKw0 (F : FnOk X.prog X.w X.K X.mg X.base (L2.CX X.prog X.w) k f fd ps (spOf X.K S)) (hr : Room k X.A) (hg : Gl X x) (hm : X.mg x = some (.ref f)) (hk : PySem.W.keepIn X.K (.ref f) = true) (hb : KBd X.K fd ps 0 ks π) (tk : Takes X W)
    (hkw : DK X W kws fk) (hall : (backToKw pos (keywordEach kws X.env)).all (·.1.isSome) = true := by rfl) (hks : (backToKw pos (keywordEach kws X.env)).filterMap (·.1) = ks := by rfl) (hdb : (x == ("__debug__" : Str)) = false := by decide)
    (hpl : ((backTo pos (starEach [] X.env)).any (·.1) || (backToKw pos (keywordEach kws X.env)).any (·.1.isNone)) = false := by rfl) :
    DE X W (.Call (.Name x p) [] kws pos) (dOpK S π 0 ks.length dNil fk) := by
  refine ⟨fun pins s σ H Q I ⟨n, Γ, μ, Qd, Ed, hH, sr, gr, h, hq, hx⟩ => ?_⟩
  subst hH
  refine wpAny_Call_Name_kw (ld_glob I hg hm ?_ hdb)
  refine PySem.W.callWith_KW0 (h₀ := X.base) I.ok.mod.kin hk hall ?_ hpl
  refine thn (hkw.run pos pins s σ n.H (fun vs H1 => vs.length = ks.length ∧ spOf X.K S (pick π vs) H1 Q (WE W σ)) I (liftA_go sr gr h.2 (fun n1 vs ds μ1 s1 r1 p1 q1 => ?_) hx)) ?_
  · exact ⟨p1.length.trans q1.1, n1, pick π ds, μ1, Qd, Ed, rfl, r1, p1.pick π, q1.2, LV.step hq s1, fun n' cls dd y μ' s' r' => hx n' cls dd y μ' (s1.trans s') r'⟩
  · rintro ws s2 ⟨zs, H2, I2, rz, hl, q2⟩
    refine ⟨I2.kIn, ?_⟩
    rw [hks]
    have e1 : ws.length = ks.length := rz.length ▸ hl
    exact run_deep (ws := pick π ws) F hr tk I2 (hb s2 [] ws I2.kIn rfl e1) (vals_pick rz π) q2
theorem de_callKw (F : FnOk X.prog X.w X.K X.mg X.base (L2.CX X.prog X.w) k f fd ps (spOf X.K S)) (hr : Room k X.A) (hg : Gl X x) (hm : X.mg x = some (.ref f)) (hk : PySem.W.keepIn X.K (.ref f) = true) (hb : KBd X.K fd ps np ks π) (tk : Takes X W)
    (ha : DA X W (e :: es) fr) (hkw : DK X W kws fk) (hall : (backToKw pos (keywordEach kws X.env)).all (·.1.isSome) = true := by rfl) (hks : (backToKw pos (keywordEach kws X.env)).filterMap (·.1) = ks := by rfl) (hdb : (x == ("__debug__" : Str)) = false := by decide)
    (he : starEach (e :: es) X.env = (false, eval e X.env) :: starEach es X.env := by rfl) (hpl : ((backTo pos (starEach (e :: es) X.env)).any (·.1) || (backToKw pos (keywordEach kws X.env)).any (·.1.isNone)) = false := by rfl) :
    DE X W (.Call (.Name x p) (e :: es) kws pos) (dOpK S π np ks.length fr fk) := by
  refine ⟨fun pins s σ H Q I ⟨n, Γ, μ, Qd, Ed, hH, sr, gr, h, hq, hx⟩ => ?_⟩
  subst hH
  refine wpAny_Call_Name_kw (ld_glob I hg hm ?_ hdb)
  refine PySem.W.callWith_KW (h₀ := X.base) I.ok.mod.kin hk hall ?_ hpl he
  refine thn (ha.run pos pins s σ n.H (fun vs H1 => vs.length = np ∧ liftA X.K W fk σ H1 fun zs H2 => zs.length = ks.length ∧ spOf X.K S (pick π (vs ++ zs)) H2 Q (WE W σ)) I (liftA_go sr gr h (fun n1 vs ds μ1 s1 r1 p1 q1 => ?_) hx)) ?_
  · refine ⟨p1.length.trans q1.1, liftA_go r1 (gr.step s1) q1.2 (fun n2 zs es μ2 s2 r2 p2 q2 => ?_) (hx.step s1)⟩
    exact ⟨p2.length.trans q2.1, n2, pick π (ds ++ es), μ2, Qd, Ed, rfl, r2, ((s2.reps p1).append p2).pick π, q2.2, LV.step hq (s1.trans s2), fun n' cls dd y μ' s' r' => hx n' cls dd y μ' ((s1.trans s2).trans s') r'⟩
  · rintro us s1 ⟨vs, H1, I1, rv, hl1, q1⟩
    refine thn (hkw.run pos pins s1 σ H1 _ I1 q1) ?_
    rintro ws s2 ⟨zs, H2, I2, rz, hl, q2⟩
    refine ⟨I2.kIn, ?_⟩
    rw [hks]
    exact run_deep (ws := pick π (us ++ ws)) F hr tk I2 (hb s2 us ws I2.kIn (rv.length ▸ hl1) (rz.length ▸ hl)) (vals_pick (rv.append rz) π) q2
end
end DV

namespace DV
open PySem PySem.Spec PyProof.Rows L2
def revS (z : Str) : Str := ⟨z.cps.toList.reverse.toArray⟩
theorem range_rev (l : List Nat) : ((List.range l.length).map fun k => l.length - 1 - k).filterMap (l[·]?) = l.reverse := by
  have e : ((List.range l.length).map fun k => l.length - 1 - k) = (List.range l.length).reverse := by
    apply List.ext_getElem (by simp)
    intro i h1 h2
    simp
  rw [e, List.filterMap_reverse]
  congr 1
  apply List.ext_getElem?
  intro i
  have : (List.range l.length).filterMap (l[·]?) = l := by
    clear e i
    induction l with
    | nil => rfl
    | cons a l ih =>
      rw [List.length_cons, List.range_succ_eq_map, List.filterMap_cons_some (b := a) (by simp), List.filterMap_map]
      congr 1
  rw [this]
def tRevA (K : PySem.W.Frag) (te : TE) : TE := fun σ H Q => te σ H fun x H1 => (∃ a xs, x = .ref a ∧ SqL K H1 a xs ∧ ∀ p, H1 p = none → Q (.ref p) (upd H1 p (.lst xs.reverse))) ∨ ∃ z, x = .str z ∧ z.length ≤ sizeLine ∧ Q (.str (revS z)) H1
section
variable {X : Cx} {W : WX} {e : Expr} {k : Nat} {q1 q2 q3 pos : Pos} {fa : DTE}
theorem pe_revA {te : TE} (he : PE X e te) : PE X (.Subscript e (.Slice none none (some (.UnaryOp .USub (.Constant (.int 1) k q1) q2)) q3) pos) (tRevA X.K te) := by
  constructor
  intro pins s σ H Q I h
  apply Subscript_
  refine thn (he.run pins s σ H _ I h) ?_
  rintro v s1 ⟨x, H1, I1, r1, qq⟩
  have stp : PO X (some (.UnaryOp .USub (.Constant (.int 1) k q1) q2)) (tPart (tUn (rU fun i => .int (-i)) (tC (.int 1)))) :=
    po_some (pe_un un_neg pe_int)
  apply wpAny_Slice
  refine thn (po_none.run pins s1 σ H1 (fun o H2 => o = none ∧ H2 = H1) I1 ⟨rfl, rfl⟩) ?_
  rintro vl s2 ⟨l, H2, I2, pl, rfl, rfl⟩
  refine thn (po_none.run pins s2 σ H2 (fun o H3 => o = none ∧ H3 = H2) I2 ⟨rfl, rfl⟩) ?_
  rintro vu s3 ⟨u, H3, I3, pu, rfl, rfl⟩
  refine thn (stp.run pins s3 σ H3 (fun o H4 => o = some (-1) ∧ H4 = H3) I3 ⟨1, rfl, -1, rfl, rfl, rfl⟩) ?_
  rintro vs s4 ⟨o, H4, I4, psx, rfl, rfl⟩
  have I5 : Inv X pins σ H4 { s4 with heap := s4.heap.push { cls := .type "slice", data := .fields #[vl, vu, vs] } } :=
    I4.kept (t' := s4.toks) (fun b ob q => Heap.get?_push_of_some _ q)
  rcases qq with ⟨a, xs, rfl, hx, q⟩ | ⟨z, rfl, hz, q⟩
  · cases r1
    obtain ⟨its, r, ht, hz⟩ := I5.list hx
    have hlen := r.length
    refine tail_any (ops := [.ref a, .ref s4.heap.objs.size]) ht.isList.typeIs (PySem.slot_list_getitem.lookup) ?_ (by with_unfolding_all rfl)
    refine wpAny_getItem_list_slice ht.isList (Heap.IsSliceOf.new _ vl vu vs) pl pu psx (by decide) ?_ (by rw [List.size_toArray]; omega)
    rw [PySem.W.krv_pick]
    refine ⟨.ref _, _, I5.laid (t' := s4.toks) (o := .lst xs.reverse) (fun b ob q => Heap.get?_push_of_some _ q) (Nat.le_refl _) ?_, rfl,
      q _ (I5.hok.fresh (Nat.le_refl _))⟩
    exact ⟨by rw [List.length_reverse]; exact hz, _, 0, r.reverse, Heap.get?_push_size _ rfl⟩
  · obtain ⟨t, rfl⟩ := r1
    refine tail_any (ops := [.str z t, .ref s4.heap.objs.size]) (typeIs_str _ _ _) F.slot_str_getitem.lookup ?_ (by with_unfolding_all rfl)
    obtain ⟨l, rfl, el⟩ := IsPart.raw pl
    obtain ⟨u, rfl, eu⟩ := IsPart.raw pu
    obtain ⟨sv, rfl, es⟩ := IsPart.raw psx
    obtain ⟨os, h1, h2, h3⟩ := Heap.IsSliceOf.new s4.heap (partValue l) (partValue u) (partValue sv)
    refine wpAny_getItem_str_slice (l := l) (u := u) (st := sv) ⟨os, h1, h2, h3⟩ (by rw [es]; rfl) ?_
    have hn : ¬ (((sv.map (·.1)).getD 1 == 1 && (slicePicked z l u sv).length == z.length) = true) := by rw [es]; simp
    have hp : (slicePicked z l u sv).filterMap (z.cps[·]?) = z.cps.toList.reverse := by
      unfold slicePicked
      rw [el, eu, es]
      show (Builtin.Str.strSliceIndices none none (-1) z.length).filterMap (z.cps[·]?) = _
      rw [picked_rev]
      have := range_rev z.cps.toList
      rw [Array.length_toList] at this
      show (List.map (fun k => z.cps.size - 1 - k) (List.range z.cps.size)).filterMap (z.cps[·]?) = _
      simpa using this
    unfold sliceMade
    rw [if_neg hn, hp]
    have hl : (revS z).length ≤ sizeLine := by
      show (z.cps.toList.reverse.toArray).size ≤ sizeLine
      rw [List.size_toArray, List.length_reverse]; exact hz
    exact ⟨hl, .str (revS z), H4, I5.tok _, ⟨_, rfl⟩, q⟩
def dRevA (fz : Bool) (f : DTE) : DTE := fun Γ μ Q E => f Γ μ (fun d μ1 => match lk μ1 d with
  | .lst xs => dFin fz xs.reverse μ1 Q
  | .str z => z.length ≤ sizeLine ∧ Q (.str (revS z)) μ1
  | _ => False) E
theorem de_revA (fz : Bool) (he : DE X W e fa) : DE X W (.Subscript e (.Slice none none (some (.UnaryOp .USub (.Constant (.int 1) k q1) q2)) q3) pos) (dRevA fz fa) :=
  PE.imp (pe_revA he) fun σ H Q ⟨n, Γ, μ, Qd, Ed, hH, sr, gr, h, hq, hx⟩ => by
  subst hH
  refine lift_go sr gr h (fun n1 x dx μ1 s1 r1 p1 q1 => ?_) hx
  try dsimp only at q1
  split at q1
  · rename_i xs e
    obtain ⟨a, vs, rfl, h1, h2⟩ := see_lst r1 p1 e
    exact .inl ⟨a, vs, rfl, SqL.of h1, fun p hp => fin_lst (LV.step hq s1) r1 hp h2.reverse q1⟩
  · rename_i z e
    rw [lk_str e] at p1
    cases p1
    exact .inr ⟨z, rfl, q1.1, hq n1 _ _ μ1 s1 r1 (.str _) q1.2⟩
  · exact q1.elim
end
/-! ### a def as its callers see it -/
def Has (P : Program) (w : World) (K : PySem.W.Frag) (mg : Str → Option Value) (base : Heap) (x : Str) (k : Nat) (ps : List Str) (S : DSp) (kb : FuncData → Prop) : Prop :=
  ∃ (f : Addr) (fd : FuncData), mg x = some (.ref f) ∧ PySem.W.keepIn K (.ref f) = true ∧ Binds K fd ps [] ∧ kb fd ∧ FnOk P w K mg base (L2.CX P w) k f fd ps (spOf K S)
section
variable {X : Cx} {W : WX} {k : Nat} {ps ks : List Str} {S : DSp} {kb : FuncData → Prop} {x : Str} {p pos : Pos} {e : Expr} {es : List Expr} {kws : List Keyword} {fr fk : DTA} {π : List Nat} {np nk : Nat}
theorem de_fnH (h : Has X.prog X.w X.K X.mg X.base x k ps S kb) (hr : Room k X.A) (hg : Gl X x) (tk : Takes X W) (ha : DA X W (e :: es) fr) (hdb : (x == ("__debug__" : Str)) = false := by decide)
    (he : starEach (e :: es) X.env = (false, eval e X.env) :: starEach es X.env := by rfl) (hpl : (backTo pos (starEach es X.env)).any (·.1) = false := by rfl) : DE X W (.Call (.Name x p) (e :: es) [] pos) (dOp S fr) := by
  obtain ⟨f, fd, h1, h2, h3, _, h5⟩ := h
  exact de_fn h5 hr hg h1 h2 h3 tk ha hdb he hpl
theorem de_c0H (h : Has X.prog X.w X.K X.mg X.base x k [] S kb) (hr : Room k X.A) (hg : Gl X x) (tk : Takes X W) (hdb : (x == ("__debug__" : Str)) = false := by decide) : DE X W (.Call (.Name x p) [] [] pos) (dOp S dNil) := by
  obtain ⟨f, fd, h1, h2, h3, _, h5⟩ := h
  exact de_call0 h5 hr hg h1 h2 h3 tk hdb
theorem de_kw0H (h : Has X.prog X.w X.K X.mg X.base x k ps S kb) (hr : Room k X.A) (hg : Gl X x) (hb : ∀ fd, kb fd → KBd X.K fd ps 0 ks π) (tk : Takes X W) (hkw : DK X W kws fk) (hall : (backToKw pos (keywordEach kws X.env)).all (·.1.isSome) = true := by rfl)
    (hks : (backToKw pos (keywordEach kws X.env)).filterMap (·.1) = ks := by rfl) (hnk : ks.length = nk := by rfl) (hdb : (x == ("__debug__" : Str)) = false := by decide)
    (hpl : ((backTo pos (starEach [] X.env)).any (·.1) || (backToKw pos (keywordEach kws X.env)).any (·.1.isNone)) = false := by rfl) : DE X W (.Call (.Name x p) [] kws pos) (dOpK S π 0 nk dNil fk) := by
  subst hnk
  obtain ⟨f, fd, h1, h2, h3, h4, h5⟩ := h
  exact de_callKw0 h5 hr hg h1 h2 (hb fd h4) tk hkw hall hks hdb hpl
theorem de_kwH (h : Has X.prog X.w X.K X.mg X.base x k ps S kb) (hr : Room k X.A) (hg : Gl X x) (hb : ∀ fd, kb fd → KBd X.K fd ps np ks π) (tk : Takes X W) (ha : DA X W (e :: es) fr) (hkw : DK X W kws fk) (hall : (backToKw pos (keywordEach kws X.env)).all (·.1.isSome) = true := by rfl)
    (hks : (backToKw pos (keywordEach kws X.env)).filterMap (·.1) = ks := by rfl) (hnk : ks.length = nk := by rfl) (hdb : (x == ("__debug__" : Str)) = false := by decide) (he : starEach (e :: es) X.env = (false, eval e X.env) :: starEach es X.env := by rfl)
    (hpl : ((backTo pos (starEach (e :: es) X.env)).any (·.1) || (backToKw pos (keywordEach kws X.env)).any (·.1.isNone)) = false := by rfl) : DE X W (.Call (.Name x p) (e :: es) kws pos) (dOpK S π np nk fr fk) := by
  subst hnk
  obtain ⟨f, fd, h1, h2, h3, h4, h5⟩ := h
  exact de_callKw h5 hr hg h1 h2 (hb fd h4) tk ha hkw hall hks hdb he hpl
end
end DV

namespace DV
open PySem PySem.Spec PyProof.Rows L2
theorem atI_nat' {α : Type} {xs : List α} {i : Int} {d : α} (h0 : 0 ≤ i) (h : xs[i.toNat]? = some d) : atI xs i = some d := by
  have hl := (List.getElem?_eq_some_iff.mp h).1
  unfold atI ixN
  rw [if_pos h0, if_pos (by omega)]
  exact h
theorem atI_zero {α : Type} {x : α} {xs : List α} : atI (x :: xs) 0 = some x := atI_nat' (by decide) rfl
theorem sgn_one (c : Nat) : sgn ⟨#[c]⟩ = some c := rfl
theorem start0_eq (N : List Str) (ds : List D) : start0 N ds = ds.map some ++ List.replicate (N.length - ds.length) none := rfl
end DV
local macro_rules | `(tactic| walk_at "dv") => `(tactic| try simp only [DV.dSeq, DV.dIf, DV.dOrT, DV.dAndT, DV.dNotT, DV.dTest, DV.dChain, DV.dC, DV.dCall, DV.gLen, DV.dCons, DV.dVar, DV.dNil, DV.dBin, DV.dUn, DV.gNeg, DV.gIn, DV.gIx, DV.dRet, DV.dRetN, DV.dNext, DV.dFor, DV.dIter, DV.dName, DV.lk, DV.dAsg, DV.dDrop, DV.gLst, DV.gTup, DV.gLstM, DV.gAdd, DV.gI, DV.gMod, DV.gMul, DV.gFdiv, DV.gPow, DV.gAbs, DV.gInt, DV.gList, DV.gTuple, DV.dOp, DV.dOpK, DV.dIsi, DV.tyD, DV.gIs, DV.gIsNot, DV.D.isN, DV.dJoin, DV.dCellM, DV.dSetI, DV.dSlice, DV.dPart, DV.dNoPart, DV.dRevA, DV.dFin, DV.dAugI, DV.dComp, DV.wipeG, DV.cName, DV.cPair, DV.dYes, DV.dRange1, DV.dRange2, DV.dAnd, DV.dOr, DV.dNot, DV.dIfE, DV.gEq, DV.gNe, DV.sgn_one, DV.atI_zero, DV.dTruth, DV.truD, DV.dBreak, DV.dCont,
  List.getElem?_cons_zero, List.getElem?_cons_succ, List.set_cons_zero, List.set_cons_succ, List.map_cons, List.map_nil, List.length_cons, List.length_nil, List.replicate, List.cons_append, List.nil_append, DV.start0, if_true, if_false, Bool.not_true, Bool.not_false, Bool.false_eq_true, Bool.true_and, Bool.and_true, Bool.or_true, Bool.true_or, Bool.false_or, Bool.or_false, eq_self_iff_true, not_true_eq_false, not_false_eq_true, ite_true, ite_false, cond_true, cond_false])
namespace DV
open PySem PySem.Spec PyProof.Rows L2
def LET : Str := "abcdefghijklmnopqrstuvwxyz"
def DIG : Str := "0123456789"
def t_valid_name : DTS := dSeq (dIf (dOrT (dNotT (dTest (dChain (fun i j => decide (i ≤ j)) (fun i j => decide (i ≤ j)) (dC (.int 1)) (dCall gLen (dCons (dVar 0) dNil)) (dC (.int 6))))) (dTest (dBin (gIn true) (dBin gIx (dVar 0) (dC (.int 0))) (dC (.str "abcdefghijklmnopqrstuvwxyz"))))) (dRet (dC (.bl false))) (dNext)) (dSeq (dFor (dIter (dVar 0)) (dName 1) (dIf (dAndT (dTest (dBin (gIn true) (dVar 1) (dC (.str "abcdefghijklmnopqrstuvwxyz")))) (dTest (dBin (gIn true) (dVar 1) (dC (.str "0123456789"))))) (dRet (dC (.bl false))) (dNext))) (dRet (dC (.bl true))))
/-- a name, by its code points -/
def isLet (c : Nat) : Bool := decide (c ∈ LET.cps.toList)
def isAln (c : Nat) : Bool := decide (c ∈ LET.cps.toList) || decide (c ∈ DIG.cps.toList)
def validC (l : List Nat) : Bool := decide (1 ≤ l.length) && decide (l.length ≤ 6) && (match l with | c :: _ => isLet c | [] => false) && l.all isAln
def validN (z : Str) : Bool := validC z.cps.toList
def S_valid_name : DSp := fun ds μ Q _ => ∃ z, ds = [.str z] ∧ z.length ≤ sizeLine ∧ Q (.bl (validN z)) μ
theorem lp_valid {z : Str} {De : DEnds} {μ : Mu} : ∀ (l : List Nat) (x : Option D), (l.all isAln = true → ∀ y, De.nx [some (.str z), y] μ) → (l.all isAln = false → De.rt (.bl false) μ) →
    dLoop none (dName 1) (dIf (dAndT (dTest (dBin (gIn true) (dVar 1) (dC (.str "abcdefghijklmnopqrstuvwxyz")))) (dTest (dBin (gIn true) (dVar 1) (dC (.str "0123456789"))))) (dRet (dC (.bl false))) dNext) (l.map fun c => D.str ⟨#[c]⟩) De [some (.str z), x] μ
  | [], x, h1, _ => ⟨trivial, h1 rfl x⟩
  | c :: l, x, h1, h2 => by
    have ih := lp_valid l (some (.str ⟨#[c]⟩)) (z := z) (De := De) (μ := μ)
    have e : isAln c = (decide (c ∈ (Str.ofString "abcdefghijklmnopqrstuvwxyz").cps.toList) || decide (c ∈ (Str.ofString "0123456789").cps.toList)) := rfl
    rw [List.map_cons, dLoop]
    refine ⟨trivial, ?_⟩
    walk_at "dv"
    rw [List.all_cons] at h1 h2
    cases e1 : decide (c ∈ (Str.ofString "abcdefghijklmnopqrstuvwxyz").cps.toList) with
    | true =>
      rw [e1, Bool.true_or] at e
      rw [e, Bool.true_and] at h1 h2
      walk_at "dv"
      exact ih h1 h2
    | false =>
      walk_at "dv"
      cases e2 : decide (c ∈ (Str.ofString "0123456789").cps.toList) with
      | true =>
        rw [e1, e2, Bool.false_or] at e
        rw [e, Bool.true_and] at h1 h2
        walk_at "dv"
        exact ih h1 h2
      | false =>
        rw [e1, e2, Bool.false_or] at e
        rw [e, Bool.false_and] at h2
        walk_at "dv"
        exact h2 rfl
theorem rd_valid_name : ∀ ds μ Q E, S_valid_name ds μ Q E → t_valid_name (dFn μ Q E) (start0 ["text", "char"] ds) μ := by
  rintro _ μ Q E ⟨z, rfl, hz, q⟩
  unfold t_valid_name
  walk_at "dv"
  refine ⟨hz, ?_⟩
  unfold validN validC at q
  have hl : z.length = z.cps.toList.length := by rw [Array.length_toList]; rfl
  cases hc : z.cps.toList with
  | nil =>
    rw [hc] at hl q
    rw [hl]
    exact FnEnd.here q
  | cons c l =>
    rw [hc] at hl q
    rw [hl]
    by_cases h6 : (c :: l).length ≤ 6
    · have a1 : decide (1 ≤ (((c :: l).length : Nat) : Int)) = true := decide_eq_true (by simp; omega)
      have a2 : decide ((((c :: l).length : Nat) : Int) ≤ 6) = true := decide_eq_true (by omega)
      have b1 : decide (1 ≤ (c :: l).length) = true := decide_eq_true (by simp)
      rw [b1, decide_eq_true h6] at q
      rw [a1, a2]
      walk_at "dv"
      have q : Q (D.bl (isLet c && (c :: l).all isAln)) μ := q
      refine ⟨by have := hz; rw [hl] at this; simpa using this, ?_⟩
      have e0 : isLet c = decide (c ∈ (Str.ofString "abcdefghijklmnopqrstuvwxyz").cps.toList) := rfl
      cases e1 : decide (c ∈ (Str.ofString "abcdefghijklmnopqrstuvwxyz").cps.toList) with
      | false =>
        rw [e1] at e0
        walk_at "dv"
        rw [e0] at q
        exact FnEnd.here (by simpa using q)
      | true =>
        rw [e1] at e0
        walk_at "dv"
        rw [e0] at q
        unfold signs
        rw [hc]
        refine lp_valid (c :: l) none (fun h y => FnEnd.here ?_) (fun h => FnEnd.here ?_)
        · rw [h] at q; exact q
        · rw [h] at q; exact q
    · have a2 : decide ((((c :: l).length : Nat) : Int) ≤ 6) = false := decide_eq_false (by omega)
      have a1 : decide (1 ≤ (((c :: l).length : Nat) : Int)) = true := decide_eq_true (by simp; omega)
      rw [a1, a2]
      walk_at "dv"
      rw [decide_eq_false h6] at q
      exact FnEnd.here (by simpa using q)
end DV

namespace DV
open PySem PySem.Spec PyProof.Rows L2
def t_draw : DTS := dSeq (dAugI (fun i j => i + j) (dVar 0) (dC (.int 2)) (dC (.int 1))) (dSeq (dWhile (dAndT (dTest (dBin gNe (dBin gIx (dVar 0) (dC (.int 0))) (dCall gLst (dNil)))) (dTest (dBin gEq (dBin gIx (dBin gIx (dVar 0) (dC (.int 0))) (dC (.int 0))) (dC (.int 0))))) (dAsg (dSlice false (dBin gIx (dVar 0) (dC (.int 0))) (dPart (dC (.int 1))) dNoPart) (dSetI (dVar 0) (dC (.int 0))))) (dSeq (dIf (dTest (dBin gNe (dBin gIx (dVar 0) (dC (.int 0))) (dCall gLst (dNil)))) (dSeq (dAsg (dBin gMod (dCall gInt (dCons (dBin gIx (dBin gIx (dVar 0) (dC (.int 0))) (dC (.int 0))) dNil)) (dVar 1)) (dName 2)) (dSeq (dAsg (dBin gFdiv (dBin gIx (dBin gIx (dVar 0) (dC (.int 0))) (dC (.int 0))) (dVar 1)) (dSetI (dBin gIx (dVar 0) (dC (.int 0))) (dC (.int 0)))) (dRet (dVar 2)))) (dNext)) (dSeq (dAsg (dBin gMod (dCall gInt (dCons (dBin gIx (dBin gIx (dVar 0) (dC (.int 1))) (dBin gMod (dCall gInt (dCons (dBin gIx (dVar 0) (dC (.int 2))) dNil)) (dCall gLen (dCons (dBin gIx (dVar 0) (dC (.int 1))) dNil)))) dNil)) (dC (.int 2147483647))) (dName 3)) (dSeq (dAsg (dBin gMod (dCall gInt (dCons (dBin gPow (dBin gAdd (dBin gAdd (dBin gMul (dVar 3) (dC (.int 48271))) (dBin gMul (dBin gIx (dVar 0) (dC (.int 2))) (dC (.int 69621)))) (dC (.int 7))) (dC (.int 5))) dNil)) (dC (.int 2147483647))) (dName 4)) (dRet (dBin gMod (dBin gMod (dCall gInt (dCons (dBin gPow (dBin gAdd (dBin gAdd (dBin gMul (dVar 4) (dC (.int 16807))) (dBin gMul (dBin gIx (dVar 0) (dC (.int 2))) (dC (.int 40692)))) (dC (.int 13))) (dC (.int 5))) dNil)) (dC (.int 2147483629))) (dVar 1)))))))
structure StA (μ : Mu) (l l0 l1 : Nat) (k : Int) (xs ys : List Int) : Prop where
  c : μ[l]? = some (.lst [.ref l0, .ref l1, .int k])
  c0 : μ[l0]? = some (.lst (xs.map .int))
  c1 : μ[l1]? = some (.lst (ys.map .int))
  n0 : l ≠ l0
  n1 : l ≠ l1
  n01 : l0 ≠ l1
theorem okn_ints (k : Nat) (xs : List Int) : D.okn (k + 1) (.lst (xs.map D.int)) = true := by
  simp [D.okn]
theorem eqv_nil (xs : List Int) (k : Nat) : PyData.eqv (D.py (k + 1) (.lst (xs.map D.int))) (D.py (k + 1) (.lst [])) = xs.isEmpty := by
  cases xs with
  | nil => simp [D.py, PyData.eqv, PyData.eqvAll]
  | cons x xs => simp [D.py, PyData.eqv, PyData.eqvAll]
theorem deq_int (μ : Mu) (i j : Int) : deq μ (.int i) (.int j) = decide (i = j) := by
  show PyData.eqv (.int i) (.int j) = _
  simp only [PyData.eqv]
  rfl
theorem deqOk_int (μ : Mu) (i j : Int) : deqOk μ (.int i) (.int j) := ⟨rfl, rfl⟩
theorem lk_cell {μ : Mu} {l : Nat} {xs : List D} (h : μ[l]? = some (.lst xs)) : lk μ (.ref l) = .lst xs := by
  unfold lk; dsimp only; rw [h]
theorem deq_nil {μ : Mu} {l : Nat} {xs : List Int} (h : μ[l]? = some (.lst (xs.map .int))) : deqOk μ (.ref l) (.lst []) ∧ deq μ (.ref l) (.lst []) = xs.isEmpty := by
  unfold deqOk deq
  rw [lk_cell h]
  exact ⟨⟨okn_ints 11 xs, rfl⟩, eqv_nil xs 11⟩
/-- what a draw leaves of the other cells -/
def FrA (μ : Mu) (l l0 : Nat) (μ' : Mu) (l0' : Nat) : Prop := μ.length ≤ μ'.length ∧ (∀ i, i < μ.length → i ≠ l → i ≠ l0 → μ'[i]? = μ[i]?) ∧ (∃ zs, μ'[l0]? = some (.lst zs)) ∧ (l0' = l0 ∨ μ.length ≤ l0')
def S_drawE : DSp := fun ds μ Q _ => ∃ l l0 l1 k xs ys m, ds = [.ref l, .int m] ∧ StA μ l l0 l1 k xs ys ∧ 0 < m ∧ m.natAbs.log2 < 9000 ∧ 0 ≤ k ∧ k + 1 ≤ 1099511627776 ∧ (∀ x ∈ xs, 0 ≤ x) ∧ ys ≠ [] ∧
  ∀ d μ' l0' xs', 0 ≤ d → d < m → StA μ' l l0' l1 (k + 1) xs' ys → xs'.length ≤ xs.length → (∀ x ∈ xs', 0 ≤ x) → FrA μ l l0 μ' l0' → Q (.int d) μ'
def bodyA : DTS := dAsg (dSlice false (dBin gIx (dVar 0) (dC (.int 0))) (dPart (dC (.int 1))) dNoPart) (dSetI (dVar 0) (dC (.int 0)))
def testA : DTT := dAndT (dTest (dBin gNe (dBin gIx (dVar 0) (dC (.int 0))) (dCall gLst (dNil)))) (dTest (dBin gEq (dBin gIx (dBin gIx (dVar 0) (dC (.int 0))) (dC (.int 0))) (dC (.int 0))))
theorem StA.ix0 {μ : Mu} {l l0 l1 : Nat} {k : Int} {xs ys : List Int} (h : StA μ l l0 l1 k xs ys) (Q : D → Mu → Prop) : gIx (.ref l) (.int 0) μ Q = Q (.ref l0) μ := by
  unfold gIx; rw [lk_cell h.c]; rfl
theorem StA.ix1 {μ : Mu} {l l0 l1 : Nat} {k : Int} {xs ys : List Int} (h : StA μ l l0 l1 k xs ys) (Q : D → Mu → Prop) : gIx (.ref l) (.int 1) μ Q = Q (.ref l1) μ := by
  unfold gIx; rw [lk_cell h.c]; rfl
theorem StA.ix2 {μ : Mu} {l l0 l1 : Nat} {k : Int} {xs ys : List Int} (h : StA μ l l0 l1 k xs ys) (Q : D → Mu → Prop) : gIx (.ref l) (.int 2) μ Q = Q (.int k) μ := by
  unfold gIx; rw [lk_cell h.c]; rfl
theorem StA.ix00 {μ : Mu} {l l0 l1 : Nat} {k x : Int} {xs ys : List Int} (h : StA μ l l0 l1 k (x :: xs) ys) (Q : D → Mu → Prop) : gIx (.ref l0) (.int 0) μ Q = Q (.int x) μ := by
  unfold gIx; rw [lk_cell h.c0]; simp only [List.map_cons, atI_zero]
theorem cut1 (x : Int) (xs : List Int) : cutL ((x :: xs).map D.int) (some 1) none = xs.map D.int := by
  have h1 : HT.sIx ((x :: xs).map D.int).length 0 (some 1) = 1 := by
    simp [HT.sIx]
  have h2 : HT.sIx ((x :: xs).map D.int).length ((x :: xs).map D.int).length none = xs.length + 1 := by simp [HT.sIx]
  unfold cutL
  rw [h1, h2]
  simp
  have := List.take_length (l := xs.map D.int)
  rwa [List.length_map] at this
theorem whileA {l l1 : Nat} {k : Int} {ys : List Int} {De : DEnds} {r : Gam} : ∀ (xs : List Int) (μ : Mu) (l0 : Nat), StA μ l l0 l1 k xs ys →
    (∀ μ' l0' xs', StA μ' l l0' l1 k xs' ys → (∀ x, xs'.head? = some x → x ≠ 0) → xs'.length ≤ xs.length → (∀ x ∈ xs', x ∈ xs) → μ.length ≤ μ'.length → (∀ i, i < μ.length → i ≠ l → μ'[i]? = μ[i]?) → (l0' = l0 ∨ μ.length ≤ l0') → De.nx (some (.ref l) :: r) μ') →
    dWhileN testA bodyA (xs.length + 1) De (some (.ref l) :: r) μ
  | [], μ, l0, h, k1 => by
    obtain ⟨o1, o2⟩ := deq_nil (xs := []) h.c0
    simp only [dWhileN, testA, dAndT, dTest, dBin, dVar, dC, dCall, dNil, gLst, List.getElem?_cons_zero, List.length_nil, h.ix0, gNe, o2]
    refine ⟨by decide, o1, ?_⟩
    simp only [List.isEmpty_nil, Bool.not_true, cond_false]
    exact k1 μ l0 [] h (by simp) (Nat.le_refl _) (by simp) (Nat.le_refl _) (fun _ _ _ => rfl) (.inl rfl)
  | x :: xs, μ, l0, h, k1 => by
    obtain ⟨o1, o2⟩ := deq_nil h.c0
    have hlt : l < μ.length := (List.getElem?_eq_some_iff.mp h.c).1
    have hlt0 : l0 < μ.length := (List.getElem?_eq_some_iff.mp h.c0).1
    have hlt1 : l1 < μ.length := (List.getElem?_eq_some_iff.mp h.c1).1
    rw [List.length_cons, dWhileN]
    simp only [testA, dAndT, dTest, dBin, dVar, dC, dCall, dNil, gLst, List.getElem?_cons_zero, List.length_nil, h.ix0, gNe, o2, List.isEmpty_cons, Bool.not_false, cond_true, h.ix00, gEq, deq_int]
    refine ⟨by decide, o1, deqOk_int _ _ _, ?_⟩
    by_cases hx : x = 0
    · rw [decide_eq_true hx, cond_true]
      -- state[0] = state[0][1:]
      simp only [bodyA, dAsg, dSlice, dBin, dVar, dC, dPart, dNoPart, List.getElem?_cons_zero, h.ix0, lk_cell h.c0, dFin, cut1]
      have g : (μ ++ [Cell.lst (xs.map D.int)])[l]? = some (.lst [.ref l0, .ref l1, .int k]) := by rw [List.getElem?_append_left hlt]; exact h.c
      simp only [dSetI, dVar, dC, List.getElem?_cons_zero, g]
      show match ixN 3 0 with | some j => _ | none => False
      show dWhileN testA bodyA (xs.length + 1) De (some (.ref l) :: r) ((μ ++ [Cell.lst (xs.map D.int)]).set l (.lst [.ref μ.length, .ref l1, .int k]))
      have ga : ∀ i, i < μ.length → i ≠ l → ((μ ++ [Cell.lst (xs.map D.int)]).set l (.lst [.ref μ.length, .ref l1, .int k]))[i]? = μ[i]? := fun i h1 h2 => by
        rw [List.getElem?_set_ne (Ne.symm h2), List.getElem?_append_left h1]
      refine whileA xs _ μ.length ⟨by rw [List.getElem?_set_self (by simp; omega)], by rw [List.getElem?_set_ne (by omega)]; simp, by rw [ga l1 hlt1 (Ne.symm h.n1)]; exact h.c1, by omega, h.n1, by omega⟩ fun μ' l0' xs' a1 a2 a3 a4 a5 a6 a7 => ?_
      rw [List.length_set, List.length_append] at a5 a7
      refine k1 μ' l0' xs' a1 a2 (by simp; omega) (fun y hy => by simp [a4 y hy]) (by simp at a5; omega) (fun i h1 h2 => ?_) ?_
      · rw [a6 i (by simp; omega) h2, ga i h1 h2]
      · rcases a7 with a7 | a7
        · exact .inr (by omega)
        · exact .inr (by simp at a7; omega)
    · rw [decide_eq_false hx, cond_false]
      exact k1 μ l0 (x :: xs) h (by simpa using hx) (Nat.le_refl _) (fun _ h => h) (Nat.le_refl _) (fun _ _ _ => rfl) (.inl rfl)
theorem fmod_lt {d m : Int} (h : 0 < m) : 0 ≤ d.fmod m ∧ d.fmod m < m := ⟨Int.fmod_nonneg_of_pos d h, Int.fmod_lt_of_pos d h⟩
theorem pow_ok {i : Int} (h : 0 ≤ i) (h2 : i < 18446744073709551616) : (0 : Int) ≤ 5 ∧ (5 : Int) ≤ 1000000 ∧ i.natAbs < 2 ^ 64 := ⟨by decide, by decide, by omega⟩
theorem rd_drawE : ∀ ds μ Q E, S_drawE ds μ Q E → t_draw (dFn μ Q E) (start0 ["_law_state", "_law_size", "_law_digit", "_law_cell", "_law_one"] ds) μ := by
  rintro _ μ Q E ⟨l, l0, l1, k, xs, ys, m, rfl, h, hm, hm2, hk0, hk1, hx0, hy, q⟩
  have hlt : l < μ.length := (List.getElem?_eq_some_iff.mp h.c).1
  unfold t_draw
  simp only [dSeq, dAugI, dVar, dC, start0, List.map_cons, List.map_nil, List.length_cons, List.length_nil, List.replicate, List.cons_append, List.nil_append, List.getElem?_cons_zero, h.c]
  refine ⟨by decide, ?_⟩
  show _ ∧ _
  refine ⟨by decide, ?_⟩
  have h1 : StA (μ.set l (.lst [.ref l0, .ref l1, .int (k + 1)])) l l0 l1 (k + 1) xs ys :=
    ⟨by rw [List.getElem?_set_self hlt], by rw [List.getElem?_set_ne h.n0]; exact h.c0, by rw [List.getElem?_set_ne h.n1]; exact h.c1, h.n0, h.n1, h.n01⟩
  refine ⟨xs.length + 1, whileA xs _ l0 h1 fun μ2 l2 xs2 h2 hh hle hin hl2 hf2 ho2 => ?_⟩
  rw [List.length_set] at hl2 ho2
  have hf2' : ∀ i, i < μ.length → i ≠ l → μ2[i]? = μ[i]? := fun i a b => by rw [hf2 i (by rw [List.length_set]; exact a) b, List.getElem?_set_ne (Ne.symm b)]
  have hlt0 : l0 < μ.length := (List.getElem?_eq_some_iff.mp h.c0).1
  obtain ⟨o1, o2⟩ := deq_nil h2.c0
  have hlt2 : l2 < μ2.length := (List.getElem?_eq_some_iff.mp h2.c0).1
  simp only [dSeq, dIf, dTest, dBin, dVar, dC, dCall, dNil, gLst, List.getElem?_cons_zero, List.length_nil, h2.ix0, gNe, o2]
  refine ⟨by decide, o1, ?_⟩
  cases xs2 with
  | cons x xs2 =>
    simp only [List.isEmpty_cons, Bool.not_false, cond_true, dSeq, dAsg, dBin, dCall, dCons, dNil, dVar, dC, List.getElem?_cons_zero, List.getElem?_cons_succ, h2.ix0, h2.ix00, gInt, gMod, gFdiv, dName, List.set_cons_succ, List.set_cons_zero, dSetI, h2.c0, dRet]
    refine ⟨by omega, ⟨hm, hm2⟩, ?_⟩
    have ix : ixN ((x :: xs2).map D.int).length 0 = some 0 := by
      unfold ixN
      rw [if_pos (by decide), if_pos (by simp)]; rfl
    simp only [ix]
    show FnEnd μ (.int (x.fmod m)) (μ2.set l2 (.lst ((D.int (x / m)) :: xs2.map D.int))) Q
    refine FnEnd.here (q _ _ l2 (x / m :: xs2) (fmod_lt hm).1 (fmod_lt hm).2 ⟨by rw [List.getElem?_set_ne (Ne.symm h2.n0)]; exact h2.c, by rw [List.getElem?_set_self hlt2]; rfl, by rw [List.getElem?_set_ne h2.n01]; exact h2.c1, h2.n0, h2.n1, h2.n01⟩ (by simpa using hle) (fun y hy => ?_) ⟨by rw [List.length_set]; exact hl2, fun i a b c => ?_, ?_, ho2⟩)
    · rcases List.mem_cons.mp hy with rfl | hy
      · exact Int.ediv_nonneg (hx0 x (hin x (by simp))) (by omega)
      · exact hx0 y (hin y (by simp [hy]))
    · rw [List.getElem?_set_ne (by rcases ho2 with z | z <;> omega)]
      exact hf2' i a b
    · by_cases e : l2 = l0
      · exact ⟨_, by rw [← e, List.getElem?_set_self hlt2]⟩
      · exact ⟨_, by rw [List.getElem?_set_ne e, hf2' l0 hlt0 (Ne.symm h.n0)]; exact h.c0⟩
  | nil =>
    simp only [List.isEmpty_nil, Bool.not_true, cond_false, dNext]
    -- the cell of the script at the count's place
    have hlen : 0 < ys.length := List.length_pos_iff.mpr hy
    obtain ⟨c, hc⟩ : ∃ c, atI (ys.map D.int) ((k + 1).fmod ((ys.map D.int).length : Int)) = some (D.int c) := by
      have b := fmod_lt (d := k + 1) (m := ((ys.map D.int).length : Int)) (by simp; omega)
      have hi : ((k + 1).fmod ((ys.map D.int).length : Int)).toNat < ys.length := by
        have := b.2; simp at this ⊢; omega
      exact ⟨ys[((k + 1).fmod ((ys.map D.int).length : Int)).toNat], atI_nat' b.1 (by rw [List.getElem?_map, List.getElem?_eq_getElem hi]; rfl)⟩
    have e1 : ∀ Q', gIx (.ref l1) (.int ((k + 1).fmod ((ys.map D.int).length : Int))) μ2 Q' = Q' (.int c) μ2 := fun Q' => by
      unfold gIx; rw [lk_cell h2.c1]; dsimp only; rw [hc]
    have hnz : ((ys.map D.int).length : Int) ≠ 0 := by simp; omega
    simp only [dSeq, dAsg, dBin, dCall, dCons, dNil, dVar, dC, List.getElem?_cons_zero, List.getElem?_cons_succ, h2.ix1, h2.ix2, gInt, gMod, gLen, lk_cell h2.c1, dName, List.set_cons_succ, List.set_cons_zero, e1]
    have bc := fmod_lt (d := c) (m := 2147483647) (by decide)
    generalize c.fmod 2147483647 = c' at bc ⊢
    refine ⟨hnz, by decide, ?_⟩
    simp only [gMul, lk, gAdd, gPow, dRet, dBin, dCall, dCons, dNil, dVar, dC, List.getElem?_cons_zero, List.getElem?_cons_succ, h2.ix2, gInt, gMod]
    refine ⟨.inr ⟨by decide, by decide⟩, .inr ⟨by decide, by decide⟩, pow_ok (by omega) (by omega), by decide, ?_⟩
    have bo := fmod_lt (d := (c' * 48271 + (k + 1) * 69621 + 7) ^ (5 : Int).toNat) (m := 2147483647) (by decide)
    generalize ((c' * 48271 + (k + 1) * 69621 + 7) ^ (5 : Int).toNat).fmod 2147483647 = c2 at bo ⊢
    refine ⟨.inr ⟨by decide, by decide⟩, .inr ⟨by decide, by decide⟩, pow_ok (by omega) (by omega), by decide, by omega, ?_⟩
    generalize ((c2 * 16807 + (k + 1) * 40692 + 13) ^ (5 : Int).toNat).fmod 2147483629 = c3
    refine FnEnd.here (q _ μ2 l2 [] (fmod_lt hm).1 (fmod_lt hm).2 h2 (by simp) (by simp) ⟨hl2, fun i a b _ => hf2' i a b, ⟨_, by rw [hf2' l0 hlt0 (Ne.symm h.n0)]; exact h.c0⟩, ho2⟩)
end DV

namespace DV
open PySem PySem.Spec PyProof.Rows L2
/-- a draw, as the law's defs see it: any number below the size; the oracle has one draw less -/
def S_draw : DSp := fun ds μ Q _ => ∃ l n m, ds = [.ref l, .int m] ∧ μ[l]? = some (.orc (n + 1, true)) ∧ 0 < m ∧ m.natAbs.log2 < 9000 ∧ ∀ d, 0 ≤ d → d < m → Q (.int d) (μ.set l (.orc (n, true)))
theorem reps_ref {K : PySem.W.Frag} {Hb : Hp} {al : List Addr} {vs : List V} {i j : Nat} {k : Int} (r : Reps K Hb al vs [.ref i, .ref j, .int k]) : ∃ a b, vs = [.ref a, .ref b, .int k] ∧ al[i]? = some a ∧ al[j]? = some b := by
  cases r with
  | cons h1 r =>
    cases r with
    | cons h2 r =>
      cases r with
      | cons h3 r =>
        cases r
        cases h1; cases h2; cases h3
        exact ⟨_, _, rfl, by assumption, by assumption⟩
theorem CellAt.sub {K : PySem.W.Frag} {n n' : Now} {a : Addr} {c : Cell} (h : CellAt K n a c) (ho : ∀ k, c ≠ .orc k) (ha : n'.H a = n.H a) (hb : n.Hb a = none → n'.Hb a = none) (s : Same n.Hb n'.Hb) (pr : n.al <+: n'.al) : CellAt K n' a c := by
  cases c with
  | gone => trivial
  | lst ds => obtain ⟨h0, vs, h1, h2⟩ := h; exact ⟨hb h0, vs, ha.trans h1, h2.mono s pr⟩
  | dct kvs => obtain ⟨h0, vs, h1, h2, h3⟩ := h; exact ⟨hb h0, vs, ha.trans h1, h2, h3.mono s pr⟩
  | ins C fs => obtain ⟨h0, dx, vs, h1, h2, h3⟩ := h; exact ⟨hb h0, dx, vs, ha.trans h1, h2, h3.mono s pr⟩
  | orc k => exact absurd rfl (ho k)
theorem CellAt.back {K : PySem.W.Frag} {n n' : Now} {a : Addr} {c : Cell} {ph : List Addr} (h0 : CellAt K n a c) (h : CellAt K n' a c) (ho : ∀ k, c ≠ .orc k) (pr : n.al <+: n'.al) : CellAt K ⟨n'.Hb, n'.H, n.al, ph⟩ a c := by
  cases c with
  | gone => trivial
  | lst ds => obtain ⟨_, _, _, z⟩ := h0; obtain ⟨h0, vs, h1, h2⟩ := h; exact ⟨h0, vs, h1, Reps.back pr z h2⟩
  | dct kvs => obtain ⟨_, _, _, _, z⟩ := h0; obtain ⟨h0, vs, h1, h2, h3⟩ := h; exact ⟨h0, vs, h1, h2, Reps.back pr z h3⟩
  | ins C fs => obtain ⟨_, _, _, _, _, z⟩ := h0; obtain ⟨h0, dx, vs, h1, h2, h3⟩ := h; exact ⟨h0, dx, vs, h1, h2, Reps.back pr z h3⟩
  | orc k => exact absurd rfl (ho k)
theorem get_app2 {α : Type} {l : List α} {x y : α} : (l ++ [x, y])[l.length]? = some x ∧ (l ++ [x, y])[l.length + 1]? = some y := by
  constructor
  · rw [List.getElem?_append_right (Nat.le_refl _)]; simp
  · rw [List.getElem?_append_right (by omega)]; simp
theorem get_app2_lt {α : Type} {l : List α} {x y z : α} {i : Nat} (h : (l ++ [x, y])[i]? = some z) : (i < l.length ∧ l[i]? = some z) ∨ (i = l.length ∧ z = x) ∨ (i = l.length + 1 ∧ z = y) := by
  by_cases hi : i < l.length
  · rw [List.getElem?_append_left hi] at h; exact .inl ⟨hi, h⟩
  · have hl := (List.getElem?_eq_some_iff.mp h).1
    simp at hl
    by_cases h2 : i = l.length
    · subst h2; rw [get_app2.1] at h; cases h; exact .inr (.inl ⟨rfl, rfl⟩)
    · have h3 : i = l.length + 1 := by omega
      subst h3; rw [get_app2.2] at h; cases h; exact .inr (.inr ⟨rfl, rfl⟩)
theorem draw_orc {K : PySem.W.Frag} (vs : List V) (H : Hp) (Q : VK) (E : XK) (h : spOf K S_draw vs H Q E) : spOf K S_drawE vs H Q E := by
  obtain ⟨n, ds, μ, Qd, Ed, hH, sr, rp, ⟨l, c, m, rfl, hl, hm, hm2, q⟩, hq, hx⟩ := h
  subst hH
  have hll : l < n.al.length := by rw [sr.len]; exact (List.getElem?_eq_some_iff.mp hl).1
  obtain ⟨a, ha⟩ : ∃ a, n.al[l]? = some a := ⟨n.al[l], List.getElem?_eq_getElem hll⟩
  obtain ⟨hba, oa⟩ := sr.cell l a _ ha hl
  obtain ⟨a0, xs, y, k, hbb, e2, e3, e4, e5, e6⟩ := oa
  have e6' := e6.resolve_right (fun z => by cases z.1)
  obtain ⟨_, b1, ys, rfl, f2, f3, f4, f5, f6, f7⟩ := e6'
  have p0 := sr.phb a0 (by rw [f2]; simp)
  have p1 := sr.phb b1 (by rw [f2]; simp)
  have na0 : a ≠ a0 := fun z => p0.2.1 (z ▸ List.mem_of_getElem? ha)
  have noc : ∀ (i : Nat) c', μ[i]? = some c' → i ≠ l → ∀ k, c' ≠ .orc k := fun i c' h1 h2 k z => by
    subst z; exact h2 (sr.orc1 i l k _ h1 hl)
  -- the explicit state
  have hpre : n.al <+: n.al ++ [a0, b1] := List.prefix_append _ _
  have lenL : n.al.length = μ.length := sr.len
  let μE : Mu := (μ.set l (.lst [.ref μ.length, .ref (μ.length + 1), .int k])) ++ [.lst (xs.map .int), .lst (ys.map .int)]
  let nE : Now := ⟨n.Hb, n.H, n.al ++ [a0, b1], []⟩
  have gE : ∀ {i : Nat} {z : Addr}, (n.al ++ [a0, b1])[i]? = some z → (i < μ.length ∧ n.al[i]? = some z) ∨ (i = μ.length ∧ z = a0) ∨ (i = μ.length + 1 ∧ z = b1) := fun h => by
    have := get_app2_lt h; rw [lenL] at this; exact this
  have lE : (μ.set l (.lst [.ref μ.length, .ref (μ.length + 1), .int k])).length = μ.length := List.length_set
  have srE : SR0 K nE μE := by
    refine ⟨sr.same, by show (n.al ++ [a0, b1]).length = _; simp [μE, lenL], ?_, fun i z c' h1 h2 => ?_, fun z hz => ?_, fun i j x y h1 h2 => ?_, fun b hb => by cases hb⟩
    · show (n.al ++ [a0, b1]).Nodup
      rw [List.nodup_append]
      refine ⟨sr.nd, by simp [Ne.symm f3], fun z hz u hu e => ?_⟩
      simp at hu
      rcases hu with rfl | rfl
      · exact p0.2.1 (e ▸ hz)
      · exact p1.2.1 (e ▸ hz)
    · rcases gE h1 with ⟨hi, h1⟩ | ⟨rfl, rfl⟩ | ⟨rfl, rfl⟩
      · have h2' : (μ.set l (.lst [.ref μ.length, .ref (μ.length + 1), .int k]))[i]? = some c' := by
          rw [← h2]; exact (List.getElem?_append_left (by rw [lE]; exact hi)).symm
        by_cases e : i = l
        · subst e
          rw [ha] at h1; cases h1
          rw [List.getElem?_set_self hi] at h2'; cases h2'
          refine ⟨hba, _, hbb, .cons (.ref ?_) (.cons (.ref ?_) (.cons (.int _) .nil))⟩
          · show (n.al ++ [a0, b1])[μ.length]? = _
            rw [← lenL]; exact get_app2.1
          · show (n.al ++ [a0, b1])[μ.length + 1]? = _
            rw [← lenL]; exact get_app2.2
        · rw [List.getElem?_set_ne (Ne.symm e)] at h2'
          exact (sr.cell i z c' h1 h2').sub (n' := nE) (noc i c' h2' e) rfl (fun x => x) (Same.refl _) hpre
      · have h2' : μE[μ.length]? = some (.lst (xs.map .int)) := by
          have := (get_app2 (l := μ.set l (.lst [.ref μ.length, .ref (μ.length + 1), .int k])) (x := Cell.lst (xs.map .int)) (y := Cell.lst (ys.map .int))).1
          rwa [lE] at this
        rw [h2'] at h2; cases h2
        exact ⟨p0.1, _, e2, reps_ints xs⟩
      · have h2' : μE[μ.length + 1]? = some (.lst (ys.map .int)) := by
          have := (get_app2 (l := μ.set l (.lst [.ref μ.length, .ref (μ.length + 1), .int k])) (x := Cell.lst (xs.map .int)) (y := Cell.lst (ys.map .int))).2
          rwa [lE] at this
        rw [h2'] at h2; cases h2
        exact ⟨p1.1, _, f5, reps_ints ys⟩
    · rcases List.mem_append.mp hz with hz | hz
      · exact sr.alh z hz
      · simp at hz
        rcases hz with rfl | rfl
        · exact p0.2.2
        · exact p1.2.2
    · exfalso
      rcases get_app2_lt h1 with ⟨hi, h1⟩ | ⟨_, z⟩ | ⟨_, z⟩
      · by_cases e : i = l
        · subst e
          rw [List.getElem?_set_self (by rw [lE] at hi; exact hi)] at h1; cases h1
        · rw [List.getElem?_set_ne (Ne.symm e)] at h1
          exact noc i _ h1 e x rfl
      · cases z
      · cases z
  have stE : StA μE l μ.length (μ.length + 1) k xs ys := by
    have hl' : l < μ.length := (List.getElem?_eq_some_iff.mp hl).1
    refine ⟨?_, ?_, ?_, by omega, by omega, by omega⟩
    · show (_ ++ _)[l]? = _
      rw [List.getElem?_append_left (by rw [lE]; exact hl'), List.getElem?_set_self hl']
    · have := (get_app2 (l := μ.set l (.lst [.ref μ.length, .ref (μ.length + 1), .int k])) (x := Cell.lst (xs.map .int)) (y := Cell.lst (ys.map .int))).1
      rwa [lE] at this
    · have := (get_app2 (l := μ.set l (.lst [.ref μ.length, .ref (μ.length + 1), .int k])) (x := Cell.lst (xs.map .int)) (y := Cell.lst (ys.map .int))).2
      rwa [lE] at this
  have lenE : μE.length = μ.length + 2 := by simp [μE]
  refine ⟨nE, _, μE, fun d μ' => ∃ i l0' xs', d = .int i ∧ 0 ≤ i ∧ i < m ∧ StA μ' l l0' (μ.length + 1) (k + 1) xs' ys ∧ xs'.length ≤ xs.length ∧ (∀ x ∈ xs', 0 ≤ x) ∧ FrA μE l μ.length μ' l0', fun _ _ => False, rfl, srE, rp.mono (Same.refl _) hpre,
    ⟨l, μ.length, μ.length + 1, k, xs, ys, m, rfl, stE, hm, hm2, e4, by have : k + ((c + 1 : Nat) : Int) ≤ 1099511627776 := e5; omega, f4, f6, fun d μ' l0' xs' a1 a2 a3 a4 a5 a6 => ⟨d, l0', xs', rfl, a1, a2, a3, a4, a5, a6⟩⟩, ?_, ?_⟩
  · rintro n' v d μ' s' r' rv ⟨i, l0', xs', rfl, i0, i1, st, hle, hnn, ⟨g1, g2, ⟨zs, g3⟩, g4⟩⟩
    cases rv
    have hal : n.al <+: n'.al := hpre.trans s'.pre
    have l'len : n'.al.length = μ'.length := r'.len
    obtain ⟨_, us, u1, u2⟩ := r'.cell l a _ (pre_get hal ha) st.c
    obtain ⟨a0', a1', rfl, w0, w1⟩ := reps_ref u2
    have w1' : a1' = b1 := by
      have : n'.al[μ.length + 1]? = some b1 := pre_get s'.pre (by show (n.al ++ [a0, b1])[μ.length + 1]? = _; rw [← lenL]; exact get_app2.2)
      rw [w1] at this; cases this; rfl
    subst w1'
    obtain ⟨hb0, us0, v0, v1⟩ := r'.cell l0' a0' _ w0 st.c0
    obtain ⟨hb1, us1, v2, v3⟩ := r'.cell (μ.length + 1) a1' _ w1 st.c1
    have hbo : n'.Hb a0 = none := by
      obtain ⟨z, _⟩ := r'.cell μ.length a0 _ (pre_get s'.pre (by show (n.al ++ [a0, a1'])[μ.length]? = _; rw [← lenL]; exact get_app2.1)) g3
      exact z
    have nin : ∀ (j : Nat) (z : Addr), μ.length ≤ j → n'.al[j]? = some z → z ∉ n.al := fun j z hj e hz => by
      obtain ⟨i', hi', ei⟩ := List.getElem_of_mem hz
      have e1 : n.al[i']? = some z := by rw [List.getElem?_eq_getElem hi', ei]
      have := nodup_get r'.nd (pre_get hal e1) e
      omega
    have hl0 : μ.length ≤ l0' := by rcases g4 with z | z <;> omega
    have new0 : a0' ∈ n.ph ∨ n.H a0' = none := by
      rcases g4 with z | z
      · subst z
        have : n'.al[μ.length]? = some a0 := pre_get s'.pre (by show (n.al ++ [a0, a1'])[μ.length]? = _; rw [← lenL]; exact get_app2.1)
        rw [w0] at this; cases this
        exact .inl (by rw [f2]; simp)
      · rcases s'.newa a0' (List.mem_of_getElem? w0) with y | y
        · exfalso
          obtain ⟨i', hi', ei⟩ := List.getElem_of_mem y
          have hi2 : i' < (n.al ++ [a0, a1']).length := hi'
          have e1 : n'.al[i']? = some a0' := pre_get s'.pre (by rw [List.getElem?_eq_getElem hi', ei])
          have := nodup_get r'.nd e1 w0
          simp at hi2
          omega
        · exact .inr y
    have stp : Step n ⟨n'.Hb, n'.H, n.al, [a0', a1']⟩ := by
      refine ⟨s'.same, List.prefix_refl _, fun b o e => ?_, fun b h => .inl h, fun b hb => ?_, fun b o e h1 h2 => s'.keep b o e (fun z => ?_) (fun z => by cases z), s'.dom⟩
      · rcases s'.newb b o e with z | z | z
        · exact .inl z
        · exact .inr (.inl z)
        · rcases List.mem_append.mp z with z | z
          · exact .inr (.inr z)
          · simp at z
            rcases z with rfl | rfl
            · rw [hbo] at e; cases e
            · rw [hb1] at e; cases e
      · simp at hb
        rcases hb with rfl | rfl
        · exact new0
        · exact .inl (by rw [f2]; simp)
      · rcases List.mem_append.mp z with z | z
        · exact h1 z
        · rw [f2] at h2; exact h2 z
    refine hq ⟨n'.Hb, n'.H, n.al, [a0', a1']⟩ _ (.int i) (μ.set l (.orc (c, true))) stp ?_ (.int i) (q i i0 i1)
    refine ⟨r'.same, by rw [List.length_set]; exact lenL, sr.nd, fun j z c' h1 h2 => ?_, fun z hz => r'.alh z (hal.subset hz), fun i' j x y h1 h2 => ?_, fun b hb => ?_⟩
    · have h1 : n.al[j]? = some z := h1
      by_cases e : j = l
      · subst e
        rw [ha] at h1; cases h1
        rw [List.getElem?_set_self (by rw [← lenL]; exact hll)] at h2; cases h2
        refine ⟨?_, a0', xs', _, k + 1, u1, ?_, by omega, by omega, by show k + 1 + (c : Int) ≤ _; have : k + ((c + 1 : Nat) : Int) ≤ 1099511627776 := e5; omega, .inl ⟨rfl, a1', ys, rfl, rfl, fun z => ?_, hnn, ?_, f6, f7⟩⟩
        · obtain ⟨z, _⟩ := r'.cell j _ _ (pre_get hal ha) st.c; exact z
        · have := Reps.ints xs' v1; subst this; exact v0
        · subst z; exact st.n01 (nodup_get r'.nd w0 w1)
        · have := Reps.ints ys v3; subst this; exact v2
      · rw [List.getElem?_set_ne (Ne.symm e)] at h2
        have hj : j < μ.length := (List.getElem?_eq_some_iff.mp h2).1
        have h2' : μ'[j]? = some c' := by
          rw [g2 j (by omega) e (by omega)]
          show (_ ++ _)[j]? = _
          rw [List.getElem?_append_left (by rw [lE]; exact hj), List.getElem?_set_ne (Ne.symm e)]; exact h2
        exact (sr.cell j z c' h1 h2).back (r'.cell j z c' (pre_get hal h1) h2') (noc j c' h2 e) hal
    · have qq : ∀ (i : Nat) x, (μ.set l (.orc (c, true)))[i]? = some (.orc x) → i = l := fun i x e => by
        by_cases e' : i = l
        · exact e'
        · rw [List.getElem?_set_ne (Ne.symm e')] at e
          exact absurd rfl (noc i _ e e' x)
      rw [qq i' x h1, qq j y h2]
    · simp at hb
      rcases hb with rfl | rfl
      · exact ⟨hb0, nin l0' _ hl0 w0, by show n'.H _ ≠ none; rw [v0]; simp⟩
      · exact ⟨hb1, nin _ _ (by omega) w1, by show n'.H _ ≠ none; rw [v2]; simp⟩
  · exact fun n' cls dd x μ' s' r' ex q' => q'.elim
end DV

namespace DV
open PySem PySem.Spec PyProof.Rows L2
def t_start : DTS := dRet (dCall gLstM (dCons (dComp false [1] (dIter (dVar 0)) (cName 1) (dTest (dBin (gI fun i j => .bl (decide (j ≤ i))) (dCall gAbs (dCons (dVar 1) dNil)) (dBin gPow (dC (.int 10)) (dC (.int 18))))) (dCall gAbs (dCons (dVar 1) dNil))) (dCons (dBin gAddM (dCall (gList true) (dCons (dVar 0) dNil)) (dCall gLst (dCons (dC (.int 5)) dNil))) (dCons (dC (.int 0)) dNil))))
def S_startE : DSp := fun ds μ Q _ => ∃ ns : List Int, ds = [.scr ns] ∧ ns.length ≤ 63 ∧ ∀ xs ys : List Int, xs.length ≤ 100 → (∀ x ∈ xs, 0 ≤ x) → ys ≠ [] → ys.length ≤ 100 →
  Q (.ref (μ.length + 2)) (μ ++ [.lst (xs.map .int), .lst (ys.map .int), .lst [.ref μ.length, .ref (μ.length + 1), .int 0]])
theorem compStart {Γ : Gam} {μ : Mu} {Q : List D → Mu → Prop} : ∀ (ns : List Int) (acc : List Int), acc.length + ns.length ≤ 100 → (∀ x ∈ acc, 0 ≤ x) → (∀ xs : List Int, xs.length ≤ 100 → (∀ x ∈ xs, 0 ≤ x) → Q (xs.map .int) μ) → 1 < Γ.length →
    dCompL none (cName 1) (dTest (dBin (gI fun i j => .bl (decide (j ≤ i))) (dCall gAbs (dCons (dVar 1) dNil)) (dBin gPow (dC (.int 10)) (dC (.int 18))))) (dCall gAbs (dCons (dVar 1) dNil)) Γ (ns.map .int) (acc.map .int) μ Q
  | [], acc, h1, h2, q, hg => ⟨trivial, q acc (by simpa using h1) h2⟩
  | n :: ns, acc, h1, h2, q, hg => by
    rw [List.length_cons] at h1
    have g1 : (Γ.set 1 (some (D.int n)))[1]? = some (some (.int n)) := List.getElem?_set_self hg
    refine ⟨trivial, ?_⟩
    simp only [cName, dTest, dBin, dCall, dCons, dNil, dVar, g1, gAbs, dC, gPow, gI]
    refine ⟨by decide, ?_⟩
    cases decide ((10 : Int) ^ (18 : Int).toNat ≤ if n < 0 then -n else n) with
    | false => exact compStart ns acc (by omega) h2 q hg
    | true =>
      refine ⟨by rw [List.length_map, sizeLine_eq]; omega, ?_⟩
      have e : acc.map D.int ++ [D.int (if n < 0 then -n else n)] = (acc ++ [if n < 0 then -n else n]).map D.int := by simp
      rw [e]
      refine compStart ns _ (by simp; omega) (fun x hx => ?_) q hg
      rcases List.mem_append.mp hx with hx | hx
      · exact h2 x hx
      · rw [List.mem_singleton.mp hx]; split <;> omega
theorem rd_startE : ∀ ds μ Q E, S_startE ds μ Q E → t_start (dFn μ Q E) (start0 ["_law_script", "_law_cell"] ds) μ := by
  rintro _ μ Q E ⟨ns, rfl, hn, q⟩
  simp only [t_start, dRet, dCall, dCons, dComp, dIter, dVar, start0, List.map_cons, List.map_nil, List.length_cons, List.length_nil, List.replicate, List.cons_append, List.nil_append, List.getElem?_cons_zero]
  refine compStart ns [] (by simp; omega) (by simp) (fun xs hx hx0 => ?_) (by simp [wipeG])
  simp only [dFin, dBin, dCall, gList, dCons, dNil, dVar, List.getElem?_cons_zero, lk, dC, gLst, gAddM, gLstM, dFin]
  refine ⟨by decide, ?_, ?_, ?_⟩
  · rw [List.length_map, sizeLine_eq]; simp; omega
  · show 3 ≤ sizeLine
    rw [sizeLine_eq]; decide
  · refine FnEnd.here ?_
    have := q xs (ns ++ [5]) hx hx0 (by simp) (by simp; omega)
    simpa using this
/-- the law's state: an oracle of 2 ^ 40 draws -/
def S_start : DSp := fun ds μ Q _ => ∃ ns : List Int, ds = [.scr ns] ∧ ns.length ≤ 63 ∧ (∀ (i : Nat) k, μ[i]? ≠ some (.orc k)) ∧ Q (.ref μ.length) (μ ++ [.orc (1099511627776, true)])
theorem start_orc {K : PySem.W.Frag} (vs : List V) (H : Hp) (Q : VK) (E : XK) (h : spOf K S_start vs H Q E) : spOf K S_startE vs H Q E := by
  obtain ⟨n, ds, μ, Qd, Ed, hH, sr, rp, ⟨ns, rfl, hn, hno, q⟩, hq, hx⟩ := h
  subst hH
  refine ⟨n, _, μ, fun d μ' => ∃ xs ys : List Int, d = .ref (μ.length + 2) ∧ μ' = μ ++ [.lst (xs.map .int), .lst (ys.map .int), .lst [.ref μ.length, .ref (μ.length + 1), .int 0]] ∧ xs.length ≤ 100 ∧ (∀ x ∈ xs, 0 ≤ x) ∧ ys ≠ [] ∧ ys.length ≤ 100, fun _ _ => False, rfl, sr, rp,
    ⟨ns, rfl, hn, fun xs ys a1 a2 a3 a4 => ⟨xs, ys, rfl, rfl, a1, a2, a3, a4⟩⟩, ?_, fun _ _ _ _ _ _ _ _ z => z.elim⟩
  rintro n' v d μ' s' r' rv ⟨xs, ys, rfl, rfl, hx1, hx2, hy1, hy2⟩
  have g : ∀ j c, [Cell.lst (xs.map D.int), Cell.lst (ys.map D.int), Cell.lst [D.ref μ.length, D.ref (μ.length + 1), D.int 0]][j]? = some c → (μ ++ [Cell.lst (xs.map D.int), Cell.lst (ys.map D.int), Cell.lst [D.ref μ.length, D.ref (μ.length + 1), D.int 0]])[μ.length + j]? = some c := fun j c h => by
    rw [List.getElem?_append_right (by omega)]; simpa using h
  cases rv with
  | @ref _ a ha =>
    obtain ⟨hb, us, u1, u2⟩ := r'.cell _ a _ ha (g 2 _ rfl)
    obtain ⟨a0, a1, rfl, w0, w1⟩ := reps_ref u2
    obtain ⟨hb0, us0, v0, v1⟩ := r'.cell _ a0 _ w0 (g 0 _ rfl)
    obtain ⟨hb1, us1, v2, v3⟩ := r'.cell _ a1 _ w1 (g 1 _ rfl)
    have e0 := Reps.ints xs v1
    have e1 := Reps.ints ys v3
    subst e0; subst e1
    have lenL := sr.len
    have nin : ∀ (j : Nat) (z : Addr), μ.length ≤ j → n'.al[j]? = some z → z ∉ n.al := fun j z hj e hz => by
      obtain ⟨i', hi', ei⟩ := List.getElem_of_mem hz
      have e1 : n.al[i']? = some z := by rw [List.getElem?_eq_getElem hi', ei]
      have := nodup_get r'.nd (pre_get s'.pre e1) e
      omega
    have new : ∀ (j : Nat) (z : Addr), μ.length ≤ j → n'.al[j]? = some z → n.H z = none := fun j z hj e => by
      rcases s'.newa z (List.mem_of_getElem? e) with y | y
      · exact absurd y (nin j z hj e)
      · exact y
    have hna : a ∉ n.al := nin _ a (by omega) ha
    have gget : ∀ {i : Nat} {z : Addr}, (n.al ++ [a])[i]? = some z → (i < μ.length ∧ n.al[i]? = some z) ∨ (i = μ.length ∧ z = a) := fun {i z} h => by
      by_cases hi : i < n.al.length
      · rw [List.getElem?_append_left hi] at h; exact .inl ⟨by omega, h⟩
      · rw [List.getElem?_append_right (by omega)] at h
        have hz := (List.getElem?_eq_some_iff.mp h).1
        simp at hz
        have : i = n.al.length := by omega
        subst this
        simp at h
        exact .inr ⟨lenL, h.symm⟩
    refine hq ⟨n'.Hb, n'.H, n.al ++ [a], [a0, a1]⟩ _ (.ref μ.length) (μ ++ [.orc (1099511627776, true)]) ⟨s'.same, List.prefix_append _ _, s'.newb, fun b hb => ?_, fun b hb => ?_, fun b o e h1 h2 => s'.keep b o e h1 h2, s'.dom⟩ ?_ (.ref ?_) q
    · rcases List.mem_append.mp hb with z | z
      · exact .inl z
      · rw [List.mem_singleton.mp z]; exact .inr (new _ a (by omega) ha)
    · simp at hb
      rcases hb with rfl | rfl
      · exact .inr (new _ _ (Nat.le_refl _) w0)
      · exact .inr (new _ _ (by omega) w1)
    · refine ⟨r'.same, by simp [lenL], ?_, fun i z c h1 h2 => ?_, fun z hz => ?_, fun i j x y h1 h2 => ?_, fun b hb => ?_⟩
      · show (n.al ++ [a]).Nodup
        rw [List.nodup_append]
        exact ⟨sr.nd, by simp, fun b hb c hc z => by rw [List.mem_singleton.mp hc] at z; exact hna (z ▸ hb)⟩
      · rcases gget h1 with ⟨hi, h1⟩ | ⟨rfl, rfl⟩
        · have h2' : μ[i]? = some c := by rw [← h2, List.getElem?_append_left hi]
          have h2'' : (μ ++ [Cell.lst (xs.map D.int), Cell.lst (ys.map D.int), Cell.lst [D.ref μ.length, D.ref (μ.length + 1), D.int 0]])[i]? = some c := by rw [List.getElem?_append_left hi]; exact h2'
          have nc : ∀ k, c ≠ .orc k := fun k z => hno i k (z ▸ h2')
          exact ((sr.cell i z c h1 h2').back (ph := [a0, a1]) (r'.cell i z c (pre_get s'.pre h1) h2'') nc s'.pre).sub (n' := ⟨n'.Hb, n'.H, n.al ++ [a], [a0, a1]⟩) nc rfl (fun x => x) (Same.refl _) (List.prefix_append _ _)
        · rw [List.getElem?_append_right (Nat.le_refl _)] at h2
          simp at h2
          subst h2
          exact ⟨hb, a0, xs, _, 0, u1, v0, hx1, by decide, by show (0 : Int) + _ ≤ _; decide, .inl ⟨rfl, a1, ys, rfl, rfl, fun z => by subst z; have := nodup_get r'.nd w0 w1; omega, hx2, v2, hy1, hy2⟩⟩
      · rcases List.mem_append.mp hz with y | y
        · exact r'.alh z (s'.pre.subset y)
        · rw [List.mem_singleton.mp y]; exact r'.alh a (List.mem_of_getElem? ha)
      · have qq : ∀ (i : Nat) x, (μ ++ [Cell.orc (1099511627776, true)])[i]? = some (.orc x) → i = μ.length := fun i x e => by
          by_cases hi : i < μ.length
          · rw [List.getElem?_append_left hi] at e; exact absurd e (hno i x)
          · have := (List.getElem?_eq_some_iff.mp e).1
            simp at this; omega
        rw [qq i x h1, qq j y h2]
      · simp at hb
        have nz : ∀ z (j : Nat), n'.al[j]? = some z → μ.length ≤ j → j ≠ μ.length + 2 → z ∉ n.al ++ [a] := fun z j e hj hne hz => by
          rcases List.mem_append.mp hz with y | y
          · exact nin j z hj e y
          · rw [List.mem_singleton.mp y] at e
            exact hne (nodup_get r'.nd e ha)
        rcases hb with rfl | rfl
        · exact ⟨hb0, nz _ _ w0 (Nat.le_refl _) (by omega), by show n'.H _ ≠ none; rw [v0]; simp⟩
        · exact ⟨hb1, nz _ _ w1 (by omega) (by omega), by show n'.H _ ≠ none; rw [v2]; simp⟩
    · show (n.al ++ [a])[μ.length]? = _
      rw [← lenL]; simp
end DV

namespace DV
open PySem PySem.Spec PyProof.Rows L2
/-! ### texts -/
def asc (z : Str) : Prop := ∀ c ∈ z.cps.toList, c < 128
theorem cps_app (a b : Str) : (a ++ b).cps.toList = a.cps.toList ++ b.cps.toList := by
  show (a.cps ++ b.cps).toList = _
  rw [Array.toList_append]
theorem len_app (a b : Str) : (a ++ b).length = a.length + b.length := by
  show (a.cps ++ b.cps).size = _
  rw [Array.size_append]; rfl
theorem len_list (a : Str) : a.length = a.cps.toList.length := by rw [Array.length_toList]; rfl
theorem asc_app {a b : Str} (ha : asc a) (hb : asc b) : asc (a ++ b) := fun c h => by
  rw [cps_app] at h
  rcases List.mem_append.mp h with h | h
  · exact ha c h
  · exact hb c h
theorem asc_one {c : Nat} (h : c < 128) : asc ⟨#[c]⟩ := fun d hd => by
  have : d = c := by simpa using hd
  omega
theorem asc_ok {z : Str} (h : asc z) : PyData.strOk z = true := by
  unfold PyData.strOk
  rw [Array.all_eq_true]
  intro i hi
  have := h z.cps[i] (by simp)
  simp only [decide_eq_true_eq]
  omega
theorem join0 : ∀ ts : List Str, (Str.join "" ts).cps.toList = (ts.map fun t => t.cps.toList).flatten
  | [] => rfl
  | [x] => by simp [Str.join]
  | x :: y :: r => by
    have ih := join0 (y :: r)
    show (x ++ ("" : Str) ++ Str.join "" (y :: r)).cps.toList = _
    rw [cps_app, cps_app, ih]
    have : (("" : Str)).cps.toList = [] := rfl
    rw [this]; simp
theorem asc_join {ts : List Str} (h : ∀ t ∈ ts, asc t) : asc (Txt.join "" ts) := fun c hc => by
  rw [TL.join_eq, join0] at hc
  obtain ⟨l, hl, hc⟩ := List.mem_flatten.mp hc
  obtain ⟨t, ht, rfl⟩ := List.mem_map.mp hl
  exact h t ht c hc
theorem len_join {ts : List Str} (h : ∀ t ∈ ts, t.length = 1) : (Txt.join "" ts).length = ts.length := by
  rw [TL.join_eq, len_list, join0]
  induction ts with
  | nil => rfl
  | cons t ts ih =>
    simp only [List.map_cons, List.flatten_cons, List.length_append, List.length_cons]
    rw [ih fun x hx => h x (by simp [hx])]
    have := h t (by simp)
    rw [len_list] at this
    omega
theorem asc_rev {z : Str} (h : asc z) : asc (revS z) := fun c hc => h c (by simpa [revS] using hc)
theorem len_rev (z : Str) : (revS z).length = z.length := by
  rw [len_list, len_list]; simp [revS]
theorem sum_ones {ts : List Str} (h : ∀ t ∈ ts, t.length = 1) : (ts.map (·.length)).sum = ts.length := by
  induction ts with
  | nil => rfl
  | cons t ts ih => simp only [List.map_cons, List.sum_cons, List.length_cons]; rw [ih fun x hx => h x (by simp [hx]), h t (by simp)]; omega
/-! ### a comprehension that draws nothing -/
theorem comp_pure {src : Option (Nat × List D)} {g : D → Gam → Mu → (Gam → Prop) → Prop} {tt : DTT} {te : DTE} {Γ : Gam} {μ : Mu} {Q : List D → Mu → Prop} (p : D → Bool) (f : D → D) (hG : Gd src μ) : ∀ (ds acc : List D),
    (∀ d ∈ ds, ∀ (K1 : D → Mu → Prop) (K2 : Mu → Prop), cond (p d) (K1 (f d) μ) (K2 μ) → g d Γ μ fun Γ1 => tt Γ1 μ (fun b μ2 => cond b (te Γ1 μ2 K1 fun _ _ => False) (K2 μ2)) fun _ _ => False) → acc.length + ds.length ≤ sizeLine →
    Q (acc ++ (ds.filter p).map f) μ → dCompL src g tt te Γ ds acc μ Q
  | [], acc, _, _, q => ⟨hG, by simpa using q⟩
  | d :: ds, acc, hs, hl, q => by
    rw [List.length_cons] at hl
    refine ⟨hG, hs d (by simp) _ _ ?_⟩
    cases e : p d with
    | true =>
      refine ⟨by omega, comp_pure p f hG ds _ (fun x hx => hs x (by simp [hx])) (by simp; omega) ?_⟩
      simpa [List.filter_cons, e] using q
    | false => exact comp_pure p f hG ds _ (fun x hx => hs x (by simp [hx])) (by omega) (by simpa [List.filter_cons, e] using q)
theorem deq_bl (μ : Mu) (i j : Bool) : deqOk μ (.bl i) (.bl j) ∧ deq μ (.bl i) (.bl j) = (i == j) := by
  refine ⟨⟨rfl, rfl⟩, ?_⟩
  show PyData.eqv (.bool i) (.bool j) = _
  simp only [PyData.eqv]
theorem draw_go {μ : Mu} {l c : Nat} {m : Int} {Q : D → Mu → Prop} {E : Exn → Mu → Prop} (h : μ[l]? = some (.orc (c, true))) (hc : 0 < c) (hm : 0 < m) (hm2 : m.natAbs.log2 < 9000) (q : ∀ d, 0 ≤ d → d < m → Q (.int d) (μ.set l (.orc (c - 1, true)))) : S_draw [.ref l, .int m] μ Q E :=
  ⟨l, c - 1, m, rfl, by rw [h]; congr 3; omega, hm, hm2, q⟩
/-! ### the law's own helpers -/
end DV

namespace DV
open PySem PySem.Spec PyProof.Rows L2
/-! ### the end of a law -/
theorem walk_deep {l : PySem.W.OpenLaw} {n k : Nat} {q : Program} {loose : List Str} {XP : (Str → Option Value) → Heap → Prop} {YP : World → Heap → Prop} {d : DefRec} {K : Params → PySem.W.Frag} {S : DSp} {x : Str}
    (hn : l.most = some n) (hn2 : n ≤ sizeLine ∧ k ≤ 60) (hdf : d.params.defaults = []) (hY : ∀ (w : World) (h : Heap), YP w h → (K w.params).In h)
    (F : ∀ (w : World) (mg : Str → Option Value) (fa : Addr) (h : Heap), (K w.params).In h → h.Ns mainGlobals mg → mg d.name = some (.ref fa) →
      ∃ fd : FuncData, (∀ (s : Shared) (u : Value), BindsTo s fd ⟨[u], []⟩ [(x, u)]) ∧ ∀ base : Heap, (K w.params).In base → base.Ns mainGlobals mg → FnOk l.prog w (K w.params) mg base (L2.CX l.prog w) k fa fd [x] (spOf (K w.params) S))
    (hsp : ∀ ns : List Int, ns.length ≤ n → S [.scr ns] [] (fun d _ => d = .bl true) fun _ _ => False) : PySem.W.WalkO q loose XP YP l.row.toRowW d [] (fun f vs => PySem.call f vs) := by
  have hr : Room 60 callerA := ⟨rfl, by decide, by decide⟩
  refine L2.walk_of (K := K) (CX := fun w => L2.CX l.prog w) (sp := fun w => spOf (K w.params) S) hn hn2.1 hdf (hr.mono hn2.2) hY F (fun w H a ns hl _ hS => ?_) (fun w H s e s' h => ?_)
  · refine ⟨⟨H, H, [], []⟩, [.scr ns], [], fun d _ => d = .bl true, fun _ _ => False, rfl, ⟨Same.refl _, rfl, List.nodup_nil, fun i a c h => by simp at h, fun a h => (by cases h), fun i j a b h => by simp at h, fun b h => (by cases h)⟩, .cons (.scr hS) .nil, hsp ns hl, ?_, fun _ _ _ _ _ _ _ _ z => z.elim⟩
    rintro n' v d μ' _ _ r rfl
    cases r; rfl
  · obtain ⟨_, _, _, _, _, _, _, _, _, _, _, _, z⟩ := h
    exact z
end DV

namespace DV
open PySem PySem.Spec PyProof.Rows L2
/-! ### helpers of the laws: texts -/
def SIG1 : Str := " !\"#$&'()*+,-./0123456789:;<=>?@ABCDEFGHIJKLMNOPQRSTUVWXYZ[\\]^_`"
def SIG2 : Str := "abcdefghijklmnopqrstuvwxyz{|}~\n"
def S_signs : DSp := fun ds μ Q _ => ds = [] ∧ Q (.str (SIG1 ++ SIG2)) μ
def t_signs : DTS := dSeq (dAsg (dC (.str " !\"#$&'()*+,-./0123456789:;<=>?@ABCDEFGHIJKLMNOPQRSTUVWXYZ[\\]^_`")) (dName 0)) (dRet (dBin gAdd (dVar 0) (dC (.str "abcdefghijklmnopqrstuvwxyz{|}~\n"))))
theorem rd_signs {x : Str} : ∀ ds μ Q E, S_signs ds μ Q E → t_signs (dFn μ Q E) (start0 [x] ds) μ := by
  rintro _ μ Q E ⟨rfl, q⟩
  unfold t_signs
  walk_at "dv"
  exact ⟨by rw [sizeLine_eq]; decide +kernel, FnEnd.here q⟩
theorem sig_len : (SIG1 ++ SIG2).length = 95 := by decide +kernel
theorem asc_dec {z : Str} (h : z.cps.toList.all (fun c => decide (c < 128)) = true) : asc z := fun c hc => of_decide_eq_true (List.all_eq_true.mp h c hc)
theorem asc_sig : asc (SIG1 ++ SIG2) := asc_dec (by decide +kernel)
def S_good : DSp := fun ds μ Q _ => ∃ z, ds = [.str z] ∧ asc z ∧ z.length ≤ 1000 ∧ Q (.bl (validN z)) μ
def t_good : DTS := dSeq (dAsg (dC (.str "abcdefghijklmnopqrstuvwxyz")) (dName 1)) (dSeq (dIf (dOrT (dTest (dBin (gI fun i j => .bl (decide (i < j))) (dCall gLen (dCons (dVar 0) dNil)) (dC (.int 1)))) (dOrT (dTest (dBin (gI fun i j => .bl (decide (j < i))) (dCall gLen (dCons (dVar 0) dNil)) (dC (.int 6)))) (dTest (dBin (gIn true) (dBin gIx (dVar 0) (dC (.int 0))) (dVar 1))))) (dRet (dC (.bl false))) (dNext)) (dRet (dBin gEq (dComp true [2] (dIter (dVar 0)) (cName 2) (dTest (dBin (gIn true) (dVar 2) (dBin gAdd (dVar 1) (dC (.str "0123456789"))))) (dVar 2)) (dCall gLst (dNil)))))
/-- what is left of a text's signs when letters and digits are taken out -/
def badSign (d : D) : Bool := match d with
  | .str w => (match sgn w with | some c => !isAln c | none => false)
  | _ => false
theorem bad_nil (l : List Nat) : ((l.map fun c => D.str ⟨#[c]⟩).filter badSign).isEmpty = l.all isAln := by
  induction l with
  | nil => rfl
  | cons c l ih =>
    have e : badSign (D.str ⟨#[c]⟩) = !isAln c := rfl
    rw [List.map_cons, List.filter_cons, e, List.all_cons]
    cases isAln c with
    | true => simpa using ih
    | false => simp
theorem eqv_nilD (ds : List D) (k : Nat) : PyData.eqv (D.py (k + 1) (.lst ds)) (D.py (k + 1) (.lst [])) = ds.isEmpty := by
  cases ds with
  | nil => simp [D.py, PyData.eqv, PyData.eqvAll]
  | cons x xs => simp [D.py, PyData.eqv, PyData.eqvAll]
theorem aln_app (c : Nat) : decide (c ∈ ((Str.ofString "abcdefghijklmnopqrstuvwxyz") ++ (Str.ofString "0123456789")).cps.toList) = isAln c := by
  rw [cps_app]
  unfold isAln LET DIG
  by_cases h1 : c ∈ (Str.ofString "abcdefghijklmnopqrstuvwxyz").cps.toList
  · simp [h1]
  · by_cases h2 : c ∈ (Str.ofString "0123456789").cps.toList
    · simp [h1, h2]
    · simp [h1, h2]
theorem rd_good {x1 x2 x3 : Str} : ∀ ds μ Q E, S_good ds μ Q E → t_good (dFn μ Q E) (start0 [x1, x2, x3] ds) μ := by
  rintro _ μ Q E ⟨z, rfl, ha, hz, q⟩
  have hsz : z.length ≤ sizeLine := by rw [sizeLine_eq]; omega
  unfold t_good
  walk_at "dv"
  refine ⟨hsz, ?_⟩
  have hl : z.length = z.cps.toList.length := len_list z
  unfold validN validC at q
  have comp : ∀ (R : List D → Mu → Prop), R ((signs z).filter badSign) μ → dCompL none (cName 2) (dTest (dBin (gIn true) (dVar 2) (dBin gAdd (dVar 1) (dC (D.str (Str.ofString "0123456789")))))) (dVar 2) [some (D.str z), some (D.str (Str.ofString "abcdefghijklmnopqrstuvwxyz")), none] (signs z) [] μ R := fun R r => by
    refine comp_pure (src := none) badSign id trivial (signs z) [] (fun d hd K1 K2 h => ?_) (by simp [signs]; rw [len_list] at hsz; simpa using hsz) (by simpa using r)
    obtain ⟨c, hc, rfl⟩ := List.mem_map.mp hd
    walk_at "dv"
    refine ⟨by rw [sizeLine_eq]; decide +kernel, ?_⟩
    rw [aln_app]
    have e : badSign (D.str ⟨#[c]⟩) = !isAln c := rfl
    rw [e] at h
    cases h2 : isAln c with
    | true => rw [h2] at h; exact h
    | false => rw [h2] at h; exact h
  cases hc : z.cps.toList with
  | nil =>
    rw [hc] at hl q
    rw [hl]
    exact FnEnd.here q
  | cons c l =>
    rw [hc] at hl q
    have a1 : decide (((z.length : Nat) : Int) < 1) = false := decide_eq_false (by rw [hl]; simp; omega)
    rw [a1, cond_false]
    refine ⟨hsz, ?_⟩
    by_cases h6 : (c :: l).length ≤ 6
    · have a2 : decide (6 < ((z.length : Nat) : Int)) = false := decide_eq_false (by rw [hl]; omega)
      rw [a2, cond_false]
      refine ⟨hsz, ?_⟩
      walk_at "dv"
      rw [decide_eq_true (show 1 ≤ (c :: l).length by simp), decide_eq_true h6] at q
      have q : Q (D.bl (isLet c && (c :: l).all isAln)) μ := q
      have e0 : isLet c = decide (c ∈ (Str.ofString "abcdefghijklmnopqrstuvwxyz").cps.toList) := rfl
      cases e1 : decide (c ∈ (Str.ofString "abcdefghijklmnopqrstuvwxyz").cps.toList) with
      | false =>
        rw [e1] at e0; rw [e0] at q
        walk_at "dv"
        exact FnEnd.here q
      | true =>
        rw [e1] at e0; rw [e0] at q
        walk_at "dv"
        refine comp _ ⟨by decide, ?_, FnEnd.here ?_⟩
        · refine ⟨?_, rfl⟩
          show D.okn 12 (.lst _) = true
          simp only [D.okn, List.all_eq_true]
          intro d hd
          obtain ⟨c', hc', rfl⟩ := List.mem_map.mp (List.mem_filter.mp hd).1
          exact asc_ok (asc_one (ha c' hc'))
        · have : deq μ (.lst ((signs z).filter badSign)) (.lst []) = (c :: l).all isAln := by
            unfold deq
            show PyData.eqv (D.py 12 (.lst _)) (D.py 12 (.lst [])) = _
            rw [eqv_nilD]
            unfold signs
            rw [bad_nil, hc]
          rw [this]; exact q
    · have a2 : decide (6 < ((z.length : Nat) : Int)) = true := decide_eq_true (by rw [hl]; omega)
      rw [a2, cond_true]
      walk_at "dv"
      rw [decide_eq_false h6] at q
      exact FnEnd.here (by simpa using q)
end DV

namespace DV
open PySem PySem.Spec PyProof.Rows L2
/-! ### instances of own classes -/
def putD (f : Str) (v : D) : List (Str × D) → List (Str × D)
  | [] => [(f, v)]
  | (g, x) :: r => if g = f then (g, v) :: r else (g, x) :: putD f v r
section
variable {K : PySem.W.Frag} {Hb : Hp} {al : List Addr}
/-- fields alike -/
theorem flds_look : ∀ {fs : List (Str × D)} {us : List (Str × V)} {f : Str} {d : D}, fs.map (·.1) = us.map (·.1) → Reps K Hb al (us.map (·.2)) (fs.map (·.2)) → fs.lookup f = some d → ∃ v, us.lookup f = some v ∧ Rep K Hb al v d
  | [], _, _, _, _, _, h => by simp at h
  | (g, x) :: fs, [], _, _, e, _, _ => by simp at e
  | (g, x) :: fs, (g', u) :: us, f, d, e, r, h => by
    simp only [List.map_cons, List.cons.injEq] at e
    obtain ⟨rfl, e⟩ := e
    cases r with
    | cons r1 r2 =>
      rw [List.lookup_cons] at h ⊢
      split at h
      · cases h; exact ⟨u, rfl, r1⟩
      · exact flds_look e r2 h
theorem flds_none : ∀ {fs : List (Str × D)} {us : List (Str × V)} {f : Str}, fs.map (·.1) = us.map (·.1) → fs.lookup f = none → us.lookup f = none
  | [], [], _, _, _ => rfl
  | [], _ :: _, _, e, _ => by simp at e
  | (g, x) :: fs, [], _, e, _ => by simp at e
  | (g, x) :: fs, (g', u) :: us, f, e, h => by
    simp only [List.map_cons, List.cons.injEq] at e
    obtain ⟨rfl, e⟩ := e
    rw [List.lookup_cons] at h ⊢
    split at h
    · cases h
    · exact flds_none e h
theorem flds_put {f : Str} {v : V} {d : D} (rv : Rep K Hb al v d) : ∀ {fs : List (Str × D)} {us : List (Str × V)}, fs.map (·.1) = us.map (·.1) → Reps K Hb al (us.map (·.2)) (fs.map (·.2)) →
    (putD f d fs).map (·.1) = (putF f v us).map (·.1) ∧ Reps K Hb al ((putF f v us).map (·.2)) ((putD f d fs).map (·.2))
  | [], [], _, _ => ⟨rfl, .cons rv .nil⟩
  | [], _ :: _, e, _ => by simp at e
  | (g, x) :: fs, [], e, _ => by simp at e
  | (g, x) :: fs, (g', u) :: us, e, r => by
    simp only [List.map_cons, List.cons.injEq] at e
    obtain ⟨rfl, e⟩ := e
    cases r with
    | cons r1 r2 =>
      obtain ⟨i1, i2⟩ := flds_put rv e r2
      unfold putD putF
      by_cases q : g = f
      · rw [if_pos q, if_pos q]; exact ⟨by simp [e], .cons rv r2⟩
      · rw [if_neg q, if_neg q]; exact ⟨by simp only [List.map_cons]; rw [i1], .cons r1 i2⟩
end
def dFld (C : Addr) (f : Str) (fo : DTE) : DTE := fun Γ μ Q E => fo Γ μ (fun d μ1 => match lk μ1 d with
  | .ins C' fs => C' = C ∧ (match fs.lookup f with | some v => Q v μ1 | none => False)
  | _ => False) E
def dSetF (C : Addr) (f : Str) (fo fv : DTE) : DTS := fun D Γ μ => fv Γ μ (fun v μ1 => fo Γ μ1 (fun o μ2 => match o with
  | .ref l => (match μ2[l]? with
    | some (.ins C' fs) => C' = C ∧ fs.length < 1000 ∧ D.nx Γ (μ2.set l (.ins C (putD f v fs)))
    | _ => False)
  | _ => False) (fun x μ1 => D.ex x Γ μ1)) (fun x μ1 => D.ex x Γ μ1)
section
variable {X : Cx} {W : WX} {o e value : Expr} {es : List Expr} {f m x : Str} {p pos pos' apos : Pos} {fo fv fi : DTE} {fr : DTA} {C g pr : Addr} {k : Nat} {fd : FuncData} {ps : List Str} {S : DSp}
theorem de_fld (c : Cls X.K C) (n : NoAttr X.K C f) (he : DE X W e fo) (hb : attributeBase e f X.env (eval e X.env) = eval e X.env := by rfl) : DE X W (.Attribute e f pos) (dFld C f fo) := PE.imp (pe_fld he hb) fun σ H Q ⟨n, Γ, μ, Qd, Ed, hH, sr, gr, h, hq, hx⟩ => by
  subst hH
  refine lift_go sr gr h (fun n1 x dx μ1 s1 r1 p1 q1 => ?_) hx
  try dsimp only at q1
  split at q1
  · rename_i C' fs e
    obtain ⟨rfl, q1⟩ := q1
    obtain ⟨a, dx, us, rfl, h1, h2, h3⟩ := see_ins r1 p1 e
    split at q1
    · rename_i d e2
      obtain ⟨v, h4, h5⟩ := flds_look h2 h3 e2
      exact ⟨a, _, dx, us, v, rfl, h1, c, by assumption, h4, hq n1 v d μ1 s1 r1 h5 q1⟩
    · exact q1.elim
  · exact q1.elim
theorem ds_fld (c : Cls X.K C) (n : NoAttr X.K C f) (ho : DE X W o fo) (hv : DE X W value fv) (hs : swapsWith value (some (.Attribute o f pos')) pos.line X.env = pure false := by rfl) : DS X W (.Assign [.Attribute o f pos'] value pos) (dSetF C f fo fv) :=
  PS.imp (ps_fld ho hv hs) fun Dn σ H ⟨A, n, Γ, μ, Dd, hH, sa, sr, gr, h, l⟩ => by
  subst hH
  have hx := l.x sa gr
  refine lift_go sr gr h (fun n1 v dv μ1 s1 r1 p1 q1 => lift_go r1 (gr.step s1) q1 (fun n2 x dx μ2 s2 r2 p2 q2 => ?_) (hx.step s1)) hx
  cases p2 with
  | @ref i a hl =>
    dsimp only at q2
    split at q2
    · rename_i C' fs e
      obtain ⟨rfl, hlen, q2⟩ := q2
      obtain ⟨hb, dx, us, h1, h2, h3⟩ := r2.cell _ _ _ hl e
      have hl2 : fs.length = us.length := by simpa using congrArg List.length h2
      obtain ⟨z1, z2⟩ := flds_put (f := f) (s2.rep p1) h2 h3
      refine ⟨a, _, dx, us, rfl, h1, c, by assumption, by omega, ?_⟩
      exact l.nx (n2.more a (.ins _ dx (putF f v us))) Γ σ _ (((sa.trans s1).trans s2).trans (Step.write hl)) (r2.write hl hb (c := .ins _ (putD f dv fs)) ⟨hb, dx, _, upd_same, z1, z2⟩ (fun k z => by cases z)) (((gr.step s1).step s2).step (Step.write hl)) q2
    · exact q2.elim
  | _ => exact q2.elim
/-! ### C(..): a new object, fixed behind its __init__ -/
def dMake (C : Addr) (S : DSp) (fr : DTA) : DTE := fun Γ μ Q E => fr Γ μ (fun vs μ1 => S (.ref μ1.length :: vs) (μ1 ++ [.ins C []])
  (fun r μ2 => r = .non ∧ ∃ fs μ3, μ2 = μ3 ++ [.ins C fs] ∧ Upd μ1 μ3 ∧ D.puF fs = true ∧ Q (.ins C fs) μ3)
  (fun x μ2 => ∃ c μ3, μ2 = μ3 ++ [c] ∧ Upd μ1 μ3 ∧ D.puF x.fs = true ∧ E x μ3)) E
theorem ins_rep {K : PySem.W.Frag} {Hb : Hp} {al : List Addr} {a C dx : Addr} {us : List (Str × V)} {fs : List (Str × D)} (h : Hb a = some (.ins C dx us)) (h2 : fs.map (·.1) = us.map (·.1)) (h3 : Reps K Hb al (us.map (·.2)) (fs.map (·.2))) : Rep K Hb al (.ref a) (.ins C fs) := by
  have hz : fs = (us.map (·.1)).zip (fs.map (·.2)) := (zip_maps fs us h2).symm
  rw [hz]
  exact .ins h rfl h3
/-- what C(..) asks of __init__'s promise, at the layer's level -/
theorem make_go {K : PySem.W.Frag} {n1 : Now} {μ1 : Mu} {vs : List V} {ds : List D} {Qd : D → Mu → Prop} {Ed : Exn → Mu → Prop} {Q : VK} {E : XK} (r1 : SR0 K n1 μ1) (p1 : Reps K n1.Hb n1.al vs ds)
    (q1 : S (.ref μ1.length :: ds) (μ1 ++ [.ins C []]) (fun r μ2 => r = .non ∧ ∃ fs μ3, μ2 = μ3 ++ [.ins C fs] ∧ Upd μ1 μ3 ∧ D.puF fs = true ∧ Qd (.ins C fs) μ3) (fun x μ2 => ∃ c μ3, μ2 = μ3 ++ [c] ∧ Upd μ1 μ3 ∧ D.puF x.fs = true ∧ Ed x μ3))
    (hq : LV K n1 Qd Q) (hx : ∀ n' cls dd x μ', Step n1 n' → SR0 K n' μ' → ExR K n' cls dd x → Ed x μ' → E cls dd n'.H) (x dx : Addr) (nx : n1.H x = none) (ndx : n1.H dx = none) (ne : dx ≠ x) :
    spOf K S (.ref x :: vs) (upd (upd n1.H dx (.own x)) x (.ins C dx [])) (fun v H2 => v = .non ∧ Q (.ref x) H2) E := by
  have rx : SR0 K (n1.more dx (.own x)) μ1 := r1.more ndx
  have nx' : (n1.more dx (.own x)).H x = none := by show upd n1.H dx _ x = none; rw [upd_ne (Ne.symm ne)]; exact nx
  have ra : SR0 K ((n1.more dx (.own x)).cell x (.ins C dx [])) (μ1 ++ [.ins C []]) := rx.cellN nx' (c := .ins C []) ⟨rx.hb nx', dx, [], upd_same, rfl, .nil⟩ (fun k z => by cases z)
  have st : Step n1 ((n1.more dx (.own x)).cell x (.ins C dx [])) := (Step.more ndx).trans (Step.cell nx')
  have hal : ((n1.more dx (.own x)).cell x (.ins C dx [])).al = n1.al ++ [x] := rfl
  refine ⟨(n1.more dx (.own x)).cell x (.ins C dx []), _, _, _, _, rfl, ra, .cons (.ref ?_) (st.reps p1), q1, ?_, ?_⟩
  · rw [hal, ← r1.len]; simp
  · rintro n2 v d μ2 s2 r2 rv ⟨rfl, fs, μ3, rfl, u, hp, q⟩
    cases rv
    refine ⟨rfl, ?_⟩
    have hx2 : n2.al[μ3.length]? = some x := pre_get s2.pre (by rw [hal, u.1, ← r1.len]; simp)
    obtain ⟨hb, dx2, us, h1, h2, h3⟩ := r2.cell μ3.length x (.ins C fs) hx2 (by simp)
    have fz := frozen (l := 0) (loc := [.ins C fs]) r1 (st.trans s2) r2 u (by simpa using hx2) h1 hb
    refine hq ⟨upd n2.Hb x (.ins C dx2 us), n2.H, n1.al, n2.ph⟩ _ (.ins C fs) μ3 fz.2 fz.1 ?_ q
    exact ins_rep upd_same h2 ((h3.any (by rw [← puF_eq]; exact hp)).mono (same_upd hb) (List.prefix_refl _))
  · rintro n2 cls dd y μ2 s2 r2 ex ⟨c, μ3, rfl, u, hp, q⟩
    obtain ⟨t1, t2⟩ := trunc r1 (st.trans s2) r2 u
    exact hx ⟨n2.Hb, n2.H, n1.al, n2.ph⟩ cls dd y μ3 t2 t1 (exr_trunc ex hp) q
theorem run_makeD {pins : List (Addr × Obj)} {σ : L2.St} {s : Shared} {n1 : Now} {μ1 : Mu} {ds : List D} {Qd : D → Mu → Prop} {Ed : Exn → Mu → Prop} {Q : VK} {us ws : List Value} {kw : List (Str × Value)} {vs : List V} {fI : Addr} (M : Mk X.K C fI) (F : FnOk X.prog X.w X.K X.mg X.base (L2.CX X.prog X.w) k fI fd ps (spOf X.K S)) (hr : Room (k + 1) X.A)
    (hb : ∀ (s' : Shared) (a : Addr), X.K.In s'.heap → BindsTo s' fd ⟨.ref a :: us, kw⟩ (ps.zip (.ref a :: ws))) (tk : Takes X W)
    (I : Inv X pins σ n1.H s) (r : Vals vs ws) (r1 : SR0 X.K n1 μ1) (p1 : Reps X.K n1.Hb n1.al vs ds)
    (q1 : S (.ref μ1.length :: ds) (μ1 ++ [.ins C []]) (fun r μ2 => r = .non ∧ ∃ fs μ3, μ2 = μ3 ++ [.ins C fs] ∧ Upd μ1 μ3 ∧ D.puF fs = true ∧ Qd (.ins C fs) μ3) (fun x μ2 => ∃ c μ3, μ2 = μ3 ++ [c] ∧ Upd μ1 μ3 ∧ D.puF x.fs = true ∧ Ed x μ3))
    (hq : LV X.K n1 Qd Q) (hx : ∀ n' cls dd x μ', Step n1 n' → SR0 X.K n' μ' → ExR X.K n' cls dd x → Ed x μ' → W cls dd σ n'.H) : wpAny (model X.prog X.w) X.A (call (.ref C) us kw) (EP X pins σ Q) X.xe s := by
  have I2 := Inv.made (C := C) I
  have nx : n1.H (s.heap.objs.size + 1) = none := I.hok.fresh (Nat.le_succ _)
  have nd : n1.H s.heap.objs.size = none := I.hok.fresh (Nat.le_refl _)
  have sp := make_go (C := C) (S := S) (E := WE W σ) r1 p1 q1 hq hx _ _ nx nd (Nat.ne_of_lt (Nat.lt_succ_self _))
  have rr : Vals (V.ref (s.heap.objs.size + 1) :: vs) (Value.ref (s.heap.objs.size + 1) :: ws) := .cons rfl r
  have go := F.run (X.A.under (.builtin "type.__call__" ⟨.ref C :: us, kw⟩)) X.stack _ _ ⟨Value.ref (s.heap.objs.size + 1) :: us, kw⟩ _ _ _ _ (hr.make C us kw) (I2.env0.make C us kw) (hb _ _ I2.kIn) rr sp
  refine wpAny_call (make_map (f := fI) I.kIn M.makes M.init (beq_iff_eq.mp M.fn) (codeAny_mono go ?_))
  intro res s' hq'
  match res, hq' with
  | .error e, hq' => exact passAt tk σ pins _ _ e s' I2 hq'
  | .ok (.ret u), hq' =>
    obtain ⟨v, H', I3, rv, ev, q3⟩ := I2.after hq'
    subst ev
    exact ⟨rv, ⟨V.ref (s.heap.objs.size + 1), H', I3, rfl, q3⟩⟩
theorem de_make {fI : Addr} (M : Mk X.K C fI) (F : FnOk X.prog X.w X.K X.mg X.base (L2.CX X.prog X.w) k fI fd ps (spOf X.K S)) (hr : Room (k + 1) X.A) (hg : Gl X x) (hm : X.mg x = some (.ref C)) (hb : Binds X.K fd ps []) (tk : Takes X W) (ha : DA X W (e :: es) fr) (hdb : (x == ("__debug__" : Str)) = false := by decide)
    (he : starEach (e :: es) X.env = (false, eval e X.env) :: starEach es X.env := by rfl) (hpl : (backTo pos (starEach es X.env)).any (·.1) = false := by rfl) : DE X W (.Call (.Name x p) (e :: es) [] pos) (dMake C S fr) := by
  refine ⟨fun pins s σ H Q I ⟨n, Γ, μ, Qd, Ed, hH, sr, gr, h, hq, hx⟩ => ?_⟩
  subst hH
  refine wpAny_Call_Name_kw (ld_glob I hg hm ?_ hdb)
  let R : List V → Hp → Prop := fun vs H1 => ∃ n1 ds μ1, n1.H = H1 ∧ SR0 X.K n1 μ1 ∧ Reps X.K n1.Hb n1.al vs ds ∧ LV X.K n1 Qd Q ∧ (∀ n' cls dd x μ', Step n1 n' → SR0 X.K n' μ' → ExR X.K n' cls dd x → Ed x μ' → W cls dd σ n'.H) ∧
    S (.ref μ1.length :: ds) (μ1 ++ [.ins C []]) (fun r μ2 => r = .non ∧ ∃ fs μ3, μ2 = μ3 ++ [.ins C fs] ∧ Upd μ1 μ3 ∧ D.puF fs = true ∧ Qd (.ins C fs) μ3) (fun x μ2 => ∃ c μ3, μ2 = μ3 ++ [c] ∧ Upd μ1 μ3 ∧ D.puF x.fs = true ∧ Ed x μ3)
  refine PySem.W.callWith_K (h₀ := X.base) I.ok.mod.kin M.kp (thn (ha.run pos pins s σ n.H R I (liftA_go sr gr h (fun n1 vs ds μ1 s1 r1 p1 q1 => ⟨n1, ds, μ1, rfl, r1, p1, LV.step hq s1, hx.step s1, q1⟩) hx)) ?_) he hpl
  rintro us s1 ⟨vs, H1, I1, r, n1, ds, μ1, rfl, r1, p1, hq1, hx1, q1⟩
  refine ⟨I1.kIn, ?_⟩
  have hl : us.length + 1 = ps.length := by
    have nx : n1.H (s1.heap.objs.size + 1) = none := I1.hok.fresh (Nat.le_succ _)
    have nd : n1.H s1.heap.objs.size = none := I1.hok.fresh (Nat.le_refl _)
    have := F.len _ _ _ _ (make_go (C := C) (S := S) (E := WE W σ) r1 p1 q1 hq1 hx1 _ _ nx nd (Nat.ne_of_lt (Nat.lt_succ_self _)))
    rw [← this, List.length_cons, r.length]
  refine run_makeD (ws := us) M F hr (fun s' a hk => ?_) tk I1 r r1 p1 q1 hq1 hx1
  have := hb s' (.ref a :: us) hk (by simpa using hl)
  rwa [List.append_nil] at this
/-! ### methods, properties, o[i] -/
def isIns (μ : Mu) (C : Addr) (m : Str) (d : D) : Prop := match lk μ d with
  | .ins C' fs => C' = C ∧ fs.lookup m = none
  | _ => False
theorem isIns_at {K : PySem.W.Frag} {n : Now} {μ : Mu} {v : V} {d : D} (s : SR0 K n μ) (r : Rep K n.Hb n.al v d) (h : isIns μ C m d) : ∃ a dx us, v = .ref a ∧ n.H a = some (.ins C dx us) ∧ us.lookup m = none := by
  unfold isIns at h
  split at h
  · rename_i C' fs e
    obtain ⟨rfl, h⟩ := h
    obtain ⟨a, dx, us, rfl, h1, h2, _⟩ := see_ins s r e
    exact ⟨a, dx, us, rfl, h1, flds_none h2 h⟩
  · exact h.elim
def dMethod (C : Addr) (m : Str) (S : DSp) (fo : DTE) (fr : DTA) : DTE := fun Γ μ Q E => fo Γ μ (fun d μ1 => isIns μ1 C m d ∧ fr Γ μ1 (fun vs μ2 => S (d :: vs) μ2 Q E) E) E
theorem de_meth {pl : Sem Bool} (c : Cls X.K C) (hm : Meth X.K C m g) (F : FnOk X.prog X.w X.K X.mg X.base (L2.CX X.prog X.w) k g fd ps (spOf X.K S)) (hr : Room k X.A) (hb : Binds X.K fd ps []) (tk : Takes X W) (he : DE X W o fo) (ha : DA X W (e :: es) fr)
    (hst : starEach (e :: es) X.env = (false, eval e X.env) :: starEach es X.env := by rfl) (hpl : (backTo pos (starEach es X.env)).any (·.1) = false := by rfl)
    (ht : eval (.Call (.Attribute o m apos) (e :: es) [] pos) X.env = (do let ov ← eval o X.env; standAt apos.atName; let (f, first) ← holding [ov] (getMethod ov m pl); callWith pos f first (backTo pos (starEach (e :: es) X.env)) (backToKw pos (keywordEach [] X.env))) := by rfl) :
    DE X W (.Call (.Attribute o m apos) (e :: es) [] pos) (dMethod C m S fo fr) := by
  refine ⟨fun pins s σ H Q I ⟨n, Γ, μ, Qd, Ed, hH, sr, gr, h, hq, hx⟩ => ?_⟩
  subst hH
  let R : V → Hp → Prop := fun v H1 => ∃ n1 d μ1, n1.H = H1 ∧ SR0 X.K n1 μ1 ∧ Rep X.K n1.Hb n1.al v d ∧ Step n n1 ∧ isIns μ1 C m d ∧ fr Γ μ1 (fun vs μ2 => S (d :: vs) μ2 Qd Ed) Ed
  refine PySem.W.methodCall_KW (pl := pl) (thn (he.run pins s σ n.H R I (lift_go sr gr h (fun n1 v d μ1 s1 r1 p1 q1 => ⟨n1, d, μ1, rfl, r1, p1, s1, q1⟩) hx)) ?_) ht
  rintro u s1 ⟨v, H1, I1, rv, n1, d, μ1, rfl, r1, p1, s1', hi, q1⟩
  obtain ⟨a, dx, us, rfl, h1, h2⟩ := isIns_at r1 p1 hi
  cases rv
  refine getmeth_ok I1 h1 c hm h2 ?_
  refine PySem.W.callWith_K (first := [.ref a]) (h₀ := X.base) I.ok.mod.kin hm.kp (thn (ha.run pos pins s1 σ n1.H (fun vs H2 => spOf X.K S (.ref a :: vs) H2 Q (WE W σ)) I1 (liftA_go r1 (gr.step s1') q1 (fun n2 vs ds μ2 s2 r2 p2 q2 => ?_) (hx.step s1'))) ?_) hst hpl
  · exact ⟨n2, d :: ds, μ2, Qd, Ed, rfl, r2, .cons (s2.rep p1) p2, q2, LV.step hq (s1'.trans s2), (hx.step s1').step s2⟩
  · rintro ws s2 ⟨vs, H2, I2, r, q2⟩
    refine ⟨I2.kIn, ?_⟩
    have rr : Vals (V.ref a :: vs) (Value.ref a :: ws) := .cons rfl r
    have hl : (Value.ref a :: ws).length = ps.length := by rw [← rr.length]; exact F.len _ _ _ _ q2
    have bb := hb s2 (.ref a :: ws) I2.kIn (by rw [List.append_nil]; exact hl)
    rw [List.append_nil] at bb
    exact run_deep (ws := .ref a :: ws) F hr tk I2 bb rr q2
theorem de_meth0 {pl : Sem Bool} (c : Cls X.K C) (hm : Meth X.K C m g) (F : FnOk X.prog X.w X.K X.mg X.base (L2.CX X.prog X.w) k g fd ps (spOf X.K S)) (hr : Room k X.A) (hb : Binds X.K fd ps []) (tk : Takes X W) (he : DE X W o fo)
    (ht : eval (.Call (.Attribute o m apos) [] [] pos) X.env = (do let ov ← eval o X.env; standAt apos.atName; let (f, first) ← holding [ov] (getMethod ov m pl); callWith pos f first (backTo pos (starEach [] X.env)) (backToKw pos (keywordEach [] X.env))) := by rfl) :
    DE X W (.Call (.Attribute o m apos) [] [] pos) (dMethod C m S fo dNil) := by
  refine ⟨fun pins s σ H Q I ⟨n, Γ, μ, Qd, Ed, hH, sr, gr, h, hq, hx⟩ => ?_⟩
  subst hH
  let R : V → Hp → Prop := fun v H1 => ∃ n1 d μ1, n1.H = H1 ∧ SR0 X.K n1 μ1 ∧ Rep X.K n1.Hb n1.al v d ∧ Step n n1 ∧ isIns μ1 C m d ∧ S [d] μ1 Qd Ed
  refine PySem.W.methodCall_KW (pl := pl) (thn (he.run pins s σ n.H R I (lift_go sr gr h (fun n1 v d μ1 s1 r1 p1 q1 => ⟨n1, d, μ1, rfl, r1, p1, s1, q1⟩) hx)) ?_) ht
  rintro u s1 ⟨v, H1, I1, rv, n1, d, μ1, rfl, r1, p1, s1', hi, q1⟩
  obtain ⟨a, dx, us, rfl, h1, h2⟩ := isIns_at r1 p1 hi
  cases rv
  refine getmeth_ok I1 h1 c hm h2 ?_
  have sp : spOf X.K S [.ref a] n1.H Q (WE W σ) := ⟨n1, [d], μ1, Qd, Ed, rfl, r1, .cons p1 .nil, q1, LV.step hq s1', hx.step s1'⟩
  have hl : [Value.ref a].length = ps.length := F.len _ _ _ _ sp
  have bb := hb s1 [.ref a] I1.kIn (by rw [List.append_nil]; exact hl)
  rw [List.append_nil] at bb
  exact PySem.W.callWith_K0 (first := [.ref a]) I1.kIn hm.kp (run_deep (us := [.ref a]) (ws := [.ref a]) (vs := [V.ref a]) F hr tk I1 bb (.cons rfl .nil) sp)
def insOf (μ : Mu) (C : Addr) (d : D) : Prop := match lk μ d with
  | .ins C' _ => C' = C
  | _ => False
theorem insOf_at {K : PySem.W.Frag} {n : Now} {μ : Mu} {v : V} {d : D} (s : SR0 K n μ) (r : Rep K n.Hb n.al v d) (h : insOf μ C d) : ∃ a dx us, v = .ref a ∧ n.H a = some (.ins C dx us) := by
  unfold insOf at h
  split at h
  · rename_i C' fs e
    subst h
    obtain ⟨a, dx, us, rfl, h1, _⟩ := see_ins s r e
    exact ⟨a, dx, us, rfl, h1⟩
  · exact h.elim
/-- a property that lets nothing out -/
def dProp (C : Addr) (S : DSp) (fo : DTE) : DTE := fun Γ μ Q E => fo Γ μ (fun d μ1 => insOf μ1 C d ∧ S [d] μ1 Q fun _ _ => False) E
theorem de_prop (c : Cls X.K C) (hp : PropOf X.K C f pr g) (F : FnOk X.prog X.w X.K X.mg X.base (L2.CX X.prog X.w) k g fd ps (spOf X.K S)) (hr : Room (k + 1) X.A) (hb : Binds X.K fd ps []) (he : DE X W e fo) (hab : attributeBase e f X.env (eval e X.env) = eval e X.env := by rfl) :
    DE X W (.Attribute e f pos) (dProp C S fo) := PE.imp (pe_prop (dvs := []) (E := fun _ _ _ => False) he c hp F hr hb .nil (fun _ _ _ _ _ _ _ z => by obtain ⟨_, _, _, _, _, _, _, _, _, _, _, _, q⟩ := z; exact q) hab) fun σ H Q ⟨n, Γ, μ, Qd, Ed, hH, sr, gr, h, hq, hx⟩ => by
  subst hH
  refine lift_go sr gr h (fun n1 x dx μ1 s1 r1 p1 q1 => ?_) hx
  obtain ⟨a, dy, us, rfl, h1⟩ := insOf_at r1 p1 q1.1
  exact ⟨a, dy, us, rfl, h1, n1, [_], μ1, Qd, fun _ _ => False, rfl, r1, .cons p1 .nil, q1.2, LV.step hq s1, fun _ _ _ _ _ _ _ _ z => z.elim⟩
/-- o[i] by an own __getitem__ -/
def dOwnIx (C : Addr) (S : DSp) (fo fi : DTE) : DTE := fun Γ μ Q E => fo Γ μ (fun d μ1 => fi Γ μ1 (fun i μ2 => insOf μ2 C d ∧ S [d, i] μ2 Q E) E) E
theorem de_ownix {i : Expr} (hs : PySem.W.findIn X.K (.ref C) "__getitem__" = some (some (.ref g))) (hf : PySem.W.fnIn X.K g = true) (hfn : PySem.W.isFn X.K (.ref g) = true) (F : FnOk X.prog X.w X.K X.mg X.base (L2.CX X.prog X.w) k g fd ps (spOf X.K S)) (hr : Room (k + 1) X.A) (hb : Binds X.K fd ps []) (tk : Takes X W)
    (he : DE X W o fo) (hi : DE X W i fi) (hsl : ∀ x j, subscripted i true (.ref x) j = runValue (.builtin "lifetime.subscript" ⟨[.ref x, j], []⟩) := by intros; with_unfolding_all rfl) : DE X W (.Subscript o i pos) (dOwnIx C S fo fi) := by
  refine ⟨fun pins s σ H Q I ⟨n, Γ, μ, Qd, Ed, hH, sr, gr, h, hq, hx⟩ => ?_⟩
  subst hH
  let R : V → V → Hp → Prop := fun x y H2 => ∃ n2 d j μ2, n2.H = H2 ∧ SR0 X.K n2 μ2 ∧ Rep X.K n2.Hb n2.al x d ∧ Rep X.K n2.Hb n2.al y j ∧ Step n n2 ∧ insOf μ2 C d ∧ S [d, j] μ2 Qd Ed
  refine Subscript_ (binT he hi (R := R) I (lift_go sr gr h (fun n1 x dx μ1 s1 r1 p1 q1 => lift_go r1 (gr.step s1) q1 (fun n2 y dy μ2 s2 r2 p2 q2 => ⟨n2, dx, dy, μ2, rfl, r2, s2.rep p1, p2, s1.trans s2, q2⟩) (hx.step s1)) hx) ?_)
  rintro v u s2 x y H2 I2 rx ry ⟨n2, d, j, μ2, rfl, r2, p1, p2, st, hi2, q2⟩
  obtain ⟨a, dx, us, rfl, h1⟩ := insOf_at r2 p1 hi2
  cases rx
  obtain ⟨mA, O, _, _, _, _⟩ := ins_get I2.hok h1
  obtain ⟨od, J, _⟩ := O.look
  obtain ⟨mm, Fm⟩ := I2.fr
  refine PySem.W.sub_K (h₀ := X.base) Fm I.ok.mod.kin J hs hf hfn ?_ (hsl a u)
  have sp : spOf X.K S [.ref a, y] n2.H Q (WE W σ) := ⟨n2, [d, j], μ2, Qd, Ed, rfl, r2, .cons p1 (.cons p2 .nil), q2, LV.step hq st, hx.step st⟩
  have rr : Vals [V.ref a, y] [Value.ref a, u] := .cons rfl (.cons ry .nil)
  have hl : [Value.ref a, u].length = ps.length := F.len _ _ _ _ sp
  have bb := hb s2 [.ref a, u] I2.kIn (by rw [List.append_nil]; exact hl)
  rw [List.append_nil] at bb
  refine wpAny_call (codeAny_mono (F.run X.A.in1 X.stack s2 n2.H ⟨[.ref a, u], []⟩ _ _ Q (WE W σ) hr.in1 I2.env0.in1 bb rr sp) ?_)
  intro res s' hq'
  match res, hq' with
  | .error e, hq' => exact passAt tk σ pins _ _ e s' I2 hq'
  | .ok (.ret u), hq' => exact I2.after hq'
/-- a way that is never taken -/
def dNever : DTS := fun _ _ _ => False
theorem ds_never {st : Stmt} : DS X W st dNever := PS.imp ps_never fun Dn σ H ⟨A, n, Γ, μ, Dd, hH, sa, sr, gr, h, l⟩ => h.elim
end
end DV

namespace DV
open PySem PySem.Spec PyProof.Rows L2
/-! ### sorted: data by their own order, or by a key -/
def pyd (d : D) : PyData := D.py 12 d
def srtOk (ks : List D) : Prop := (∀ d ∈ ks, D.okn 12 d = true) ∧ PySem.W.AllAlike (ks.map pyd) ∧ PySem.W.Sortable (ks.map pyd)
def leBy (key : D → D) : D → D → Bool := PySem.W.dataLe false fun d => pyd (key d)
def sortBy (key : D → D) (ds : List D) : List D := ds.mergeSort (leBy key)
theorem each_vals {α : Type} {f : α → V} : ∀ {zs : List α} {us : List Value}, Vals (zs.map f) us → PySem.W.EachIs (fun u z => RelV (f z) u) us zs
  | [], us, h => by cases h; exact .nil
  | z :: zs, us, h => by
    cases h with
    | cons h1 h2 => exact .cons h1 (each_vals h2)
theorem vals_each {α : Type} {f : α → V} : ∀ {zs : List α} {us : List Value}, PySem.W.EachIs (fun u z => RelV (f z) u) us zs → Vals (zs.map f) us
  | _, _, .nil => .nil
  | _, _, .cons h t => .cons h (vals_each t)
theorem each_reps {K : PySem.W.Frag} {Hb : Hp} {al : List Addr} {α : Type} {f : α → V} : ∀ {zs : List α} {ds : List D}, PySem.W.EachIs (fun z d => Rep K Hb al (f z) d) zs ds → Reps K Hb al (zs.map f) ds
  | _, _, .nil => .nil
  | _, _, .cons h t => .cons h (each_reps t)
def rSortD (K : PySem.W.Frag) : List V → Hp → VK → Prop := fun vs H Q => ∃ (a : Addr) (zs : List (V × PyData)), vs = [.ref a] ∧ SqL K H a (zs.map (·.1)) ∧ (∀ z ∈ zs, Dp K H z.1 z.2 ∧ z.2.depth ≤ 12) ∧ PySem.W.AllAlike (zs.map (·.2)) ∧ PySem.W.Sortable (zs.map (·.2)) ∧
  ∀ p, H p = none → Q (.ref p) (upd H p (.lst ((zs.mergeSort (PySem.W.dataLe false (·.2))).map (·.1))))
theorem cr_sortD {X : Cx} (hu : X.A.units + 64 < cLine) : CallR X (.builtin "sorted") (rSortD X.K) := by
  intro pins s σ H vs us Q I r h
  obtain ⟨a, zs, rfl, hs, hz, hal, hk, q⟩ := h
  obtain ⟨its, rv, hl, hn⟩ := I.list hs
  rw [Vals.ref1 r]
  have e := each_vals rv
  have er : PySem.W.EachIs (fun u (z : V × PyData) => ∃ as, Reads s.heap u z.2 as) its zs := by
    have e2 := PySem.W.each_mem e
    exact e2.mono fun u z ⟨h1, h2⟩ => Dp.reads I z.2 z.1 u (hz z h2).1 h1
  rw [List.length_map] at hn
  refine PySem.W.sorted_data hl.isList e er hal hk hn (fun z hz' => ?_) fun out ho eo => ?_
  · have := (hz z hz').2
    omega
  · obtain ⟨c, he⟩ := PyProof.Rows.sortedAll_at s.heap its out.toArray
    have hlen : ((zs.mergeSort (PySem.W.dataLe false (·.2))).map (·.1)).length ≤ sizeLine := by
      rw [List.length_map, (List.mergeSort_perm _ _).length_eq]; exact hn
    exact ⟨.ref _, upd H (s.heap.objs.size + 1) (.lst ((zs.mergeSort (PySem.W.dataLe false (·.2))).map (·.1))), I.laid (t' := s.toks) (fun _ _ => PyProof.Rows.sortedAll_old) (Nat.le_succ _) ⟨hlen, out, c, vals_each eo, he⟩, rfl, q _ (I.hok.fresh (Nat.le_succ _))⟩
/-- sorted(x) -/
def gSorted (fz : Bool) : GN := fun ds μ Q => match ds with
  | [d] => (match lk μ d with
    | .lst xs => srtOk xs ∧ dFin fz (sortBy id xs) μ Q
    | _ => False)
  | _ => False
theorem zip_fst {K : PySem.W.Frag} {Hb : Hp} {al : List Addr} : ∀ {vs : List V} {ds : List D}, Reps K Hb al vs ds → PySem.W.EachIs (fun (z : V × PyData) d => Rep K Hb al z.1 d ∧ z.2 = pyd d) (vs.zip (ds.map pyd)) ds
  | _, _, .nil => .nil
  | _, _, .cons h t => .cons ⟨h, rfl⟩ (zip_fst t)
theorem okn_depth {d : D} (h : D.okn 12 d = true) : (pyd d).depth ≤ 12 := (okn_lay 12 d h).2
theorem op_gSorted {K : PySem.W.Frag} {fz : Bool} : OpN K (rSortD K) (gSorted fz) := fun n μ xs ds Qd Q s r q l => by
  unfold gSorted at q
  split at q
  · cases r with
    | cons r1 r2 =>
      cases r2
      split at q
      · rename_i ys e
        obtain ⟨a, vs, rfl, h1, h2⟩ := see_lst s r1 e
        obtain ⟨⟨k1, k2, k3⟩, q⟩ := q
        have hl := h2.length
        have m1 : (vs.zip (ys.map pyd)).map Prod.fst = vs := List.map_fst_zip (by simp; omega)
        have m2 : (vs.zip (ys.map pyd)).map Prod.snd = ys.map pyd := List.map_snd_zip (by simp; omega)
        have z := zip_fst h2
        refine ⟨a, vs.zip (ys.map pyd), rfl, by rw [m1]; exact SqL.of h1, fun w hw => ?_, by rw [m2]; exact k2, by rw [m2]; exact k3, fun p hp => ?_⟩
        · obtain ⟨d, hd, hr, he⟩ := z.left w hw
          rw [he]
          exact ⟨dp_of s.same 12 hr (k1 d hd), okn_depth (k1 d hd)⟩
        · have so := PySem.W.sort_each (r := PySem.W.dataLe false fun w : V × PyData => w.2) (s := leBy id) z fun p hp q hq => by
            show PySem.W.dataLe false _ _ _ = PySem.W.dataLe false _ _ _
            unfold PySem.W.dataLe PySem.W.sortLe
            dsimp only
            rw [(z.zip p hp).2, (z.zip q hq).2]
            rfl
          exact fin_lst l s hp (each_reps (so.mono fun _ _ h => h.1)) q
      · exact q.elim
  · exact q.elim
section
variable {X : Cx} {W : WX} {a : Expr} {p pos : Pos} {fa : DTE}
theorem de_sorted (fz : Bool) (hu : X.A.units + 64 < cLine) (hg : Gl X "sorted") (hm : X.mg "sorted" = none) (ha : DE X W a fa) (hs : starEach [a] X.env = (false, eval a X.env) :: starEach [] X.env := by rfl) : DE X W (.Call (.Name "sorted" p) [a] [] pos) (dCall (gSorted fz) (dCons fa dNil)) :=
  de_callB (cr_sortD hu) op_gSorted hg hm (by decide +kernel) (da_cons ha da_nil hs) (he := hs)
end
end DV

namespace DV
open PySem PySem.Spec PyProof.Rows L2
/-- what a key is asked of: the def's promise, at the items -/
def rSortK (K : PySem.W.Frag) (S : DSp) (f : Addr) : List V → List V → Hp → VK → Prop := fun vs zs H Q => ∃ (n : Now) (μ : Mu) (a : Addr) (us : List V) (ds : List D) (key : D → D), n.H = H ∧ SR0 K n μ ∧ vs = [.ref a] ∧ zs = [.ref f] ∧
  SqL K H a us ∧ Reps K n.Hb n.al us ds ∧ (∀ d ∈ ds, S [d] μ (fun x μ' => x = key d ∧ μ' = μ) (fun _ _ => False)) ∧ srtOk (ds.map key) ∧
  ∀ n' p ws, Step n n' → SR0 K n' μ → n'.H p = none → Reps K n'.Hb n'.al ws (sortBy key ds) → Q (.ref p) (upd n'.H p (.lst ws))
theorem freed {h : Heap} {b : Addr} {o : Obj} (e : h.get? b = some o) : ∃ h1 : Heap, h1.get? b = none ∧ (∀ c, c ≠ b → h1.get? c = h.get? c) := by
  refine ⟨h.update b (fun o => { o with data := .freed }), ?_, fun c hc => Heap.get?_update_other h _ (Ne.symm hc)⟩
  obtain ⟨e1, _⟩ := Heap.get?_some_iff.mp e
  cases q : (h.update b (fun o => { o with data := .freed })).get? b with
  | none => rfl
  | some u =>
    obtain ⟨q1, q2⟩ := Heap.get?_some_iff.mp q
    cases h
    simp only [Heap.update, Array.getElem?_modify, if_true] at q1
    simp only at e1
    rw [e1] at q1
    simp at q1
    subst q1
    simp [Obj.isFreed] at q2
section
variable {X : Cx} {S : DSp} {k : Nat} {f : Addr} {fd : FuncData} {ps : List Str}
theorem pairs_each {α β γ δ : Type} {R : α → β → Prop} {R' : γ → β → Prop} : ∀ {as : List α} {bs : List β} {cs : List γ}, PySem.W.EachIs R as bs → PySem.W.EachIs R' cs bs → PySem.W.EachIs (fun (z : α × γ) b => R z.1 b ∧ R' z.2 b) (as.zip cs) bs
  | _, _, _, .nil, h => by cases h; exact .nil
  | _, _, _, .cons h t, h2 => by
    cases h2 with
    | cons h3 t3 => exact .cons ⟨h, h3⟩ (pairs_each (δ := δ) t t3)
theorem cr_sortK (F : FnOk X.prog X.w X.K X.mg X.base (L2.CX X.prog X.w) k f fd ps (spOf X.K S)) (hr : Room (k + 2) X.A) (hb : Binds X.K fd ps []) (hps : ps.length = 1) : CallRK X (.builtin "sorted") [Str.ofString "key"] (rSortK X.K S f) := by
  intro pins s σ H vs zs us ws Q I r rz h
  obtain ⟨n, μ, a, xs, ds, key, hH, sr, rfl, rfl, hs, rp, hS, hok, q⟩ := h
  subst hH
  obtain rfl := Vals.ref1 r
  obtain rfl := Vals.ref1 rz
  obtain ⟨its, rv, hl, hn⟩ := I.list hs
  have hlx := rp.length
  have hli := rv.length
  have hr2 : Room k X.A.in1.in1 := (Room.in1 (k := k + 1) hr).in1
  have hL0 : s.heap.objs.size ≤ s.heap.objs.size + 1 := Nat.le_succ _
  have hzi : its.length ≤ sizeLine := by omega
  refine PySem.W.sorted_of_sort hl.isList hzi (PyProof.Rows.ksk_s1 _ _) (fun _ => PyProof.Rows.ksk_l1 _ _) fun E' => ?_
  show wpAny (model X.prog X.w) X.A.in1.in1 (Builtin.«list.sort» ⟨[.ref (s.heap.objs.size + 1)], [(Str.ofString "key", .ref f)]⟩) _ E' _
  rw [PyProof.Rows.ksk_t1]
  have ho := PySem.W.copyHeap_at s.heap its
  have old0 : ∀ b u, s.heap.get? b = some u → (PySem.W.sortingHeap (PySem.W.copyHeap s.heap its) (s.heap.objs.size + 1) its).get? b = some u := fun _ _ => PySem.W.sorting_copy_old
  have hcs : (PySem.W.copyHeap s.heap its).objs.size = s.heap.objs.size + 2 := by
    unfold PySem.W.copyHeap
    rw [PyProof.Rows.size_push', Heap.size_update, PyProof.Rows.size_push']
  unfold PySem.W.sortingHeap at old0
  generalize PySem.W.copyHeap s.heap its = hc at ho old0 hcs ⊢
  generalize hL : s.heap.objs.size + 1 = L at ho old0 hL0 ⊢
  obtain ⟨e1, ho1⟩ : ∃ e1, (hc.update L (Obj.mapSeq fun _ => (#[] : Array Value))).get? L = some (seqObj "list" #[] e1) := ⟨_, get?_update_seq ho fun _ => #[]⟩
  unfold ksk_tree
  refine wpAny_bind (listItems_at ho rfl (wpAny_bind (listUpdate_at ho rfl (wpAny_bind (seqEpoch_at ho1 rfl (wpAny_bind (wpAny_newTuple (wpAny_bind (wpAny_newList (wpAny_holding ?_) (Nat.zero_le _))) (by show its.length ≤ _; exact hzi))))) (by rw [List.size_toArray]; exact hzi) (Nat.zero_le _))))
  have hk0 : ((hc.update L (Obj.mapSeq fun _ => (#[] : Array Value))).push (seqObj "tuple" its.toArray 0)).objs.size = s.heap.objs.size + 3 := by rw [PyProof.Rows.size_push', Heap.size_update, hcs]
  have aL : (((hc.update L (Obj.mapSeq fun _ => (#[] : Array Value))).push (seqObj "tuple" its.toArray 0)).push (seqObj "list" #[] 0)).get? L = some (seqObj "list" #[] e1) := Heap.get?_push_of_some _ (Heap.get?_push_of_some _ ho1)
  have aS : (((hc.update L (Obj.mapSeq fun _ => (#[] : Array Value))).push (seqObj "tuple" its.toArray 0)).push (seqObj "list" #[] 0)).get? (s.heap.objs.size + 3) = some (seqObj "list" #[] 0) := by rw [← hk0]; exact Heap.get?_push_size _ rfl
  show wpAny (model X.prog X.w) X.A.in1.in1 (ksk_rest L (.ref f) false its.toArray e1 (.ref ((hc.update L (Obj.mapSeq fun _ => (#[] : Array Value))).push (seqObj "tuple" its.toArray 0)).objs.size)) _ E' { s with heap := ((hc.update L (Obj.mapSeq fun _ => (#[] : Array Value))).push (seqObj "tuple" its.toArray 0)).push (seqObj "list" #[] 0) }
  rw [hk0]
  generalize ((hc.update L (Obj.mapSeq fun _ => (#[] : Array Value))).push (seqObj "tuple" its.toArray 0)).push (seqObj "list" #[] 0) = h0 at aL aS old0 ⊢
  have hS0 : s.heap.objs.size ≤ s.heap.objs.size + 3 := by omega
  have hne : s.heap.objs.size + 3 ≠ L := by omega
  generalize s.heap.objs.size + 3 = kS at aS hS0 hne ⊢
  have nL : n.H L = none := I.hok.fresh hL0
  have nS : n.H kS = none := I.hok.fresh hS0
  have fL : ∀ {H' : Hp}, H' L = none → FpOk X pins H' L := fun h => I.fpOk hL0 h
  have fS : ∀ {H' : Hp}, H' kS = none → FpOk X pins H' kS := fun h => I.fpOk hS0 h
  have I0 : Inv X pins σ n.H { s with heap := h0 } := I.kept (t' := s.toks) old0
  have pin2 : ∀ {H' : Hp} {s' : Shared} {kA : Array Value} {e : Nat}, Inv X pins σ H' s' → H' L = none → H' kS = none → s'.heap.get? kS = some (seqObj "list" kA e) → s'.heap.get? L = some (seqObj "list" #[] e1) → Inv X (pins ++ [(kS, seqObj "list" kA e), (L, seqObj "list" #[] e1)]) σ H' s' := fun {H' s' kA e} J h1 h2 h3 h4 =>
    J.pins_of fun p hp => by
      rcases List.mem_append.mp hp with z | z
      · exact J.pin p (List.mem_append_right _ z)
      · rcases List.mem_cons.mp z with z | z
        · subst z
          exact ⟨h3, h2, (fS h2).2.1, (fS h2).2.2.1, fun v => by simp [seqObj]⟩
        · have z := List.mem_singleton.mp z
          subst z
          exact ⟨h4, h1, (fL h1).2.1, (fL h1).2.2.1, fun v => by simp [seqObj]⟩
  unfold ksk_rest
  refine wpAny_bind (wpAny_rule ?_)
  first
    | rw [List.forIn_toArray]
    | (rw [← Array.forIn_toList]; simp only [List.toList_toArray])
    | rw [← Array.forIn_toList]
  refine wpAny_bind (ksk_fold (fun i s' => ∃ n1 kA e, Inv X (pins ++ [(kS, seqObj "list" kA e), (L, seqObj "list" #[] e1)]) σ n1.H s' ∧ Step n n1 ∧ SR0 X.K n1 μ ∧ PySem.W.EachIs (fun u d => ∃ v, RelV v u ∧ Rep X.K n1.Hb n1.al v (key d)) kA.toList (ds.take i)) its 0 _
    ⟨n, #[], 0, pin2 I0 nL nS aS aL, Step.refl n, sr, by rw [List.take_zero]; exact .nil⟩ ?_ ?_)
  · rintro j x s' hx ⟨n1, kA, e, J, s1, r1, ek⟩
    simp only [Nat.zero_add] at ek ⊢
    have hj : j < its.length := (List.getElem?_eq_some_iff.mp hx).1
    obtain ⟨d, hd⟩ : ∃ d, ds[j]? = some d := ⟨_, List.getElem?_eq_getElem (by omega)⟩
    obtain ⟨v, hv, rvd⟩ := rp.get hd
    obtain ⟨x', hx', rx⟩ := Vals.get rv hv
    have ex : x' = x := Option.some.inj (hx'.symm.trans hx)
    subst ex
    have hz : kA.size ≤ its.length := by
      have h1 := ek.length
      rw [Array.length_toList, List.length_take] at h1
      omega
    have turn : wpAny (model X.prog X.w) X.A.in1.in1 (call (.ref f) [x']) (EP X (pins ++ [(kS, seqObj "list" kA e), (L, seqObj "list" #[] e1)]) σ fun v H' => ∃ n', n'.H = H' ∧ Step n1 n' ∧ SR0 X.K n' μ ∧ Rep X.K n'.Hb n'.al v (key d)) (fun _ _ => False) s' := by
      refine wpAny_call (codeAny_mono (F.run X.A.in1.in1 X.stack s' n1.H ⟨[x'], []⟩ [x'] [v] (fun v H' => ∃ n', n'.H = H' ∧ Step n1 n' ∧ SR0 X.K n' μ ∧ Rep X.K n'.Hb n'.al v (key d)) (fun _ _ _ => False) hr2 J.env0.in1.in1 (hb s' [x'] J.kIn (by simp [hps])) (.cons rx .nil)
        ⟨n1, [d], μ, _, _, rfl, r1, .cons (s1.rep rvd) .nil, hS d (List.mem_of_getElem? hd), fun n' u d' μ' st sr' rp' ⟨h1, h2⟩ => ?_, fun _ _ _ _ _ _ _ _ h => h⟩) ?_)
      · subst h1; subst h2
        exact ⟨n', rfl, st, sr', rp'⟩
      · intro res s2 hq
        match res, hq with
        | .error e, hq =>
          obtain ⟨_, _, _, _, _, _, _, _, _, _, _, _, z⟩ := hq
          exact z.elim
        | .ok (.ret u), hq => exact J.after hq
    refine wpAny_bind (wpAny_attempt (wpAny_mono turn (fun u s2 he => ?_) fun _ _ hF => hF.elim))
    obtain ⟨v2, H2, J2, rv2, n2, hH2, st2, r2, rp2⟩ := he
    subst hH2
    try dsimp only
    have p1 := J2.pin (kS, seqObj "list" kA e) (by simp)
    have p2 := J2.pin (L, seqObj "list" #[] e1) (by simp)
    have sb := Heap.SameBut.update s2.heap kS (Obj.mapSeq (·.push u))
    obtain ⟨c2, hc2⟩ : ∃ c2, (s2.heap.update kS (Obj.mapSeq (·.push u))).get? kS = some (seqObj "list" (kA.push u) c2) := ⟨_, get?_update_seq p1.1 (·.push u)⟩
    refine wpAny_bind (listUpdate_at p1.1 rfl (wpAny_pure ⟨rfl, n2, kA.push u, c2, ?_, s1.trans st2, r2, ?_⟩) (Nat.le_trans hz hzi) (Nat.le_trans (Nat.le_of_eq (Array.size_push ..)) (Nat.succ_le_succ (Nat.le_trans hz hzi))))
    · have J3 : Inv X pins σ n2.H { s2 with heap := s2.heap.update kS (Obj.mapSeq (·.push u)) } := by
        have f := fS p1.2.1
        exact (J2.unpinned (pins := pins)).turned (t' := s2.toks) (fun b o hb q => (sb.2 b hb).trans q) p1.2.1 f.2.1 f.2.2.2.1 f.2.2.2.2.1 f.2.2.2.2.2
      exact pin2 J3 p2.2.1 p1.2.1 hc2 ((sb.2 L (Ne.symm hne)).trans p2.1)
    · have e2 : ds.take (j + 1) = ds.take j ++ [d] := by rw [List.take_add_one, hd]; simp
      have e3 : (kA.push u).toList = kA.toList ++ [u] := by simp
      rw [e2, e3]
      refine PySem.W.each_snoc (R := fun (u : Value) (d : D) => ∃ v, RelV v u ∧ Rep X.K n2.Hb n2.al v (key d)) ⟨v2, rv2, rp2⟩ (ek.mono fun u' d' ⟨v', h1, h2⟩ => ⟨v', h1, st2.rep h2⟩)
  · rintro s' ⟨n1, kA, e, J, s1, r1, ek⟩
    have e3 : ds.take (0 + its.length) = ds := List.take_of_length_le (by omega)
    rw [e3] at ek
    have p1 := J.pin (kS, seqObj "list" kA e) (by simp)
    have p2 := J.pin (L, seqObj "list" #[] e1) (by simp)
    obtain ⟨k1, k2, k3⟩ := hok
    rw [List.map_map] at k2 k3
    have hsz : kA.size = its.length := by
      have h1 := ek.length
      rw [Array.length_toList] at h1
      omega
    have ekk : PySem.W.EachIs (fun u k => ∃ as, Reads s'.heap u k as) kA.toList (ds.map (pyd ∘ key)) := by
      refine PySem.W.each_map (R := fun u k => ∃ as, Reads s'.heap u k as) (pyd ∘ key) ((PySem.W.each_mem ek).mono fun u d ⟨⟨v, h1, h2⟩, hd⟩ => ?_)
      exact Dp.reads J _ v u (dp_of r1.same 12 h2 (k1 _ (List.mem_map.mpr ⟨d, hd, rfl⟩))) h1
    obtain ⟨g1, g2, g3⟩ := freed p1.1
    have hdep : ∀ k, k ∈ ds.map (pyd ∘ key) → X.A.in1.in1.units + k.depth < cLine := fun k hk => by
      obtain ⟨d, hd, rfl⟩ := List.mem_map.mp hk
      have h1 : (pyd (key d)).depth ≤ 12 := okn_depth (k1 _ (List.mem_map.mpr ⟨d, hd, rfl⟩))
      have h2 := hr2.un
      show X.A.in1.in1.units + (pyd (key d)).depth < cLine
      omega
    refine wpAny_bind (listItems_at p1.1 rfl ?_)
    refine PySem.W.keyH_end (κ := PySem.W.dataKind s'.heap (ds.map (pyd ∘ key))) (h₁ := g1) (fun b o hb q => ?_) g2 p1.1 p2.1 hne (PySem.W.SortsAt.data ekk k2 k3 hdep) hsz hzi fun h3 tk3 c kp3 at3 => ?_
    · by_cases hbk : b = kS
      · rw [hbk, g2] at q; cases q
      · rw [← g3 b hbk]; exact q
    · refine ⟨rfl, ?_⟩
      have hx1 : (xs.zip ds).map Prod.fst = xs := List.map_fst_zip (by omega)
      have hx2 : (xs.zip ds).map Prod.snd = ds := List.map_snd_zip (by omega)
      have ko : PySem.W.KeyedOut false ((xs.zip ds).map fun z => pyd (key z.2)) its (PySem.W.sortVals (PySem.W.dataKind s'.heap (ds.map (pyd ∘ key))) false kA.toList its) := by
        have em : ((xs.zip ds).map fun z => pyd (key z.2)) = ds.map (pyd ∘ key) := by
          have z := congrArg (List.map (pyd ∘ key)) hx2
          rw [List.map_map] at z
          exact z
        rw [em]
        exact ⟨s'.heap, kA.toList, k2, rfl, ekk⟩
      have ev : PySem.W.EachIs (fun u (z : V × D) => RelV z.1 u) its (xs.zip ds) := each_vals (f := Prod.fst) (by rw [hx1]; exact rv)
      have eo := PySem.W.keyedOut_each (fun z : V × D => pyd (key z.2)) ko ev
      have er : ∀ {vs : List V} {ds : List D}, Reps X.K n.Hb n.al vs ds → PySem.W.EachIs (fun (z : V × D) d => Rep X.K n.Hb n.al z.1 d ∧ z.2 = d) (vs.zip ds) ds := fun {vs ds} h => by
        induction h using Reps.rec (motive_1 := fun _ _ _ => True) with
        | nil => exact .nil
        | cons h t _ ih => exact .cons ⟨h, rfl⟩ ih
        | _ => trivial
      have so := PySem.W.sort_each (r := PySem.W.dataLe false fun z : V × D => pyd (key z.2)) (s := leBy key) (er rp) fun p hp q hq => by
        show PySem.W.dataLe false _ _ _ = PySem.W.dataLe false _ _ _
        unfold PySem.W.dataLe PySem.W.sortLe
        dsimp only
        rw [((er rp).zip p hp).2, ((er rp).zip q hq).2]
      have rw' : Reps X.K n1.Hb n1.al (((xs.zip ds).mergeSort (PySem.W.dataLe false fun z : V × D => pyd (key z.2))).map Prod.fst) (sortBy key ds) := s1.reps (each_reps (so.mono fun _ _ h => h.1))
      have J1 : Inv X pins σ n1.H { s' with heap := g1 } := by
        have ff := fS p1.2.1
        exact (J.unpinned (pins := pins)).turned (t' := s'.toks) (fun b o hb q => (g3 b hb).trans q) p1.2.1 ff.2.1 ff.2.2.2.1 ff.2.2.2.2.1 ff.2.2.2.2.2
      have J2 := J1.take (t' := tk3) (it := L) (o := .lst (((xs.zip ds).mergeSort (PySem.W.dataLe false fun z : V × D => pyd (key z.2))).map Prod.fst)) (fun b o hb q => kp3 b o hb q) (fL p2.2.1) ⟨by
        rw [List.length_map, (List.mergeSort_perm _ _).length_eq, List.length_zip]; omega, _, c, vals_each eo, at3⟩
      exact ⟨.ref L, _, J2, rfl, q n1 L _ s1 r1 p2.2.1 rw'⟩
end
def dSortK (fz : Bool) (S : DSp) (key : D → D) (fe : DTE) : DTE := fun Γ μ Q E => fe Γ μ (fun d μ1 => match lk μ1 d with
  | .lst xs => (∀ d ∈ xs, S [d] μ1 (fun x μ' => x = key d ∧ μ' = μ1) (fun _ _ => False)) ∧ srtOk (xs.map key) ∧ dFin fz (sortBy key xs) μ1 Q
  | _ => False) E
section
variable {X : Cx} {W : WX} {S : DSp} {k : Nat} {ps : List Str} {kb : FuncData → Prop} {x : Str} {p pos q1 q2 : Pos} {e : Expr} {fa : DTE}
theorem de_sortKH (fz : Bool) (key : D → D) (h : Has X.prog X.w X.K X.mg X.base x k ps S kb) (hps : ps.length = 1) (hr : Room (k + 2) X.A) (hgx : Gl X x) (hg : Gl X "sorted") (hm : X.mg "sorted" = none) (he : DE X W e fa) (hdb : (x == ("__debug__" : Str)) = false := by decide)
    (hs : starEach [e] X.env = [(false, eval e X.env)] := by rfl) (hb : backTo pos (starEach [e] X.env) = (false, eval e X.env) :: backTo pos (starEach [] X.env) := by rfl) (hpl : (backTo pos (starEach [e] X.env)).any (·.1) = false := by rfl)
    (hall : (backToKw pos (keywordEach [⟨some "key", .Name x q1, q2⟩] X.env)).all (·.1.isSome) = true := by rfl) (hnone : (backToKw pos (keywordEach [⟨some "key", .Name x q1, q2⟩] X.env)).any (·.1.isNone) = false := by rfl)
    (hks : (backToKw pos (keywordEach [⟨some "key", .Name x q1, q2⟩] X.env)).filterMap (·.1) = [Str.ofString "key"] := by rfl) :
    DE X W (.Call (.Name "sorted" p) [e] [⟨some "key", .Name x q1, q2⟩] pos) (dSortK fz S key fa) := by
  obtain ⟨f, fd, h1, h2, h3, _, h5⟩ := h
  refine PE.imp (pe_callBK (cr_sortK h5 hr h3 hps) hg hm (by decide +kernel) (pa_cons he pa_nil hs) (pk_cons (pe_glob (v := .ref f) hgx h1 rfl hdb) pk_nil) (by decide) (by decide) hb hpl hall hnone hks) fun σ H Q ⟨n, Γ, μ, Qd, Ed, hH, sr, gr, h, hq, hx⟩ => ?_
  subst hH
  refine lift_go sr gr h (fun n1 x dx μ1 s1 r1 p1 q1 => ?_) hx
  try dsimp only at q1
  split at q1
  · rename_i xs e
    obtain ⟨a, vs, rfl, g1, g2⟩ := see_lst r1 p1 e
    refine ⟨n1, μ1, a, vs, xs, key, rfl, r1, rfl, rfl, SqL.of g1, g2, q1.1, q1.2.1, fun n' p ws st sr' hp rw' => ?_⟩
    exact fin_lst (LV.step hq (s1.trans st)) sr' hp rw' q1.2.2
  · exact q1.elim
end
end DV

namespace DV
open PySem PySem.Spec PyProof.Rows L2
/-! ### t[::-1] of a tuple -/
section
variable {prog : Program} {w : World} {A : Around} {E : Value → Shared → Prop} {s : Shared}
theorem places_rev (n : Nat) : Builtin.Slice.slicePlaces ((n : Int) - 1) (-1) (-1) = n := by
  unfold Builtin.Slice.slicePlaces
  have h1 : ¬ ((-1 : Int) > 0) := by omega
  simp only [h1, if_false, Int.neg_neg, Int.ediv_one]
  split <;> omega
theorem range_revG {α : Type} (l : List α) : ((List.range l.length).map fun k => l.length - 1 - k).filterMap (l[·]?) = l.reverse := by
  have e : ((List.range l.length).map fun k => l.length - 1 - k) = (List.range l.length).reverse := by
    apply List.ext_getElem (by simp)
    intro i h1 h2
    simp
  have z : (List.range l.length).filterMap (l[·]?) = l := by
    clear e
    induction l with
    | nil => rfl
    | cons a l ih =>
      rw [List.length_cons, List.range_succ_eq_map, List.filterMap_cons_some (b := a) (by simp), List.filterMap_map]
      congr 1
  rw [e, List.filterMap_reverse, z]
theorem range_revI (l : List Value) : (List.range l.length).filterMap (fun (k : Nat) => l.toArray[((l.length : Int) - 1 + (k : Int) * -1).toNat]?) = l.reverse := by
  rw [← range_revG l, List.filterMap_map]
  congr 1
  funext k
  have : ((l.length : Int) - 1 + (k : Int) * -1).toNat = l.length - 1 - k := by omega
  rw [this]
  simp
theorem getItem_tuple_back {t sl : Addr} {its : List Value} {vl vu vs : Value} {Q : Value → Shared → Prop} (ht : IsTup s.heap t its.toArray) (hs : s.heap.IsSliceOf sl vl vu vs) (pl : IsPart vl none) (pu : IsPart vu none) (ps : IsPart vs (some (-1)))
    (hsz : its.length ≤ sizeLine) (h : Q (.ref s.heap.objs.size) { s with heap := s.heap.push { cls := .type "tuple", data := .seq its.reverse.toArray } }) : wpAny (model prog w) A (getItem (.ref t) (.ref sl)) Q E s := by
  obtain ⟨os, ho, hc, hd⟩ := id hs
  have hT : s.TypeIs (.ref sl) "slice" := ⟨os, ho, hc⟩
  have hz : sizeOk (.seq its.reverse.toArray) := by
    show its.reverse.toArray.size ≤ sizeLine
    rw [List.size_toArray, List.length_reverse]; exact hsz
  unfold getItem
  try with_reducible refine wpAny_holding ?_
  first | refine wpAny_bind (wpAny_pure ?_) | skip
  refine wpAny_bind (wpAny_sequenceKey ht.typeIs (by decide) (wpAny_bind (wpAny_callSpecial?_slot (name := Str.ofString "__getitem__") ht.typeIs PyProof.Rows.slot_tuple_getitem (wpAny_call_entry PyProof.Rows.slot_tuple_getitem ht.typeIs entry_tuple_getitem ?_ (args_tuple_getitem _ _)))))
  show wpAny _ _ (Builtin.Tuple.tupleItemsOf (.ref t) >>= _) _ _ s
  refine wpAny_bind (tupleItemsOf_ ht (wpAny_bind (wpAny_typeOf hT ?_)))
  rw [if_pos (by decide)]
  have app : ∀ {Q : Int × Int × Nat → Shared → Prop} {E : Value → Shared → Prop} {A : Around}, Q ((its.length : Int) - 1, -1, its.length) s → wpAny (model prog w) A (Builtin.Slice.sliceApplied (.ref sl) (pure (its.toArray.size : Int))) Q E s := fun {Q E A} h => by
    unfold Builtin.Slice.sliceApplied Builtin.Slice.sliceFields
    refine wpAny_bind (wpAny_bind (wpAny_field ho hd (x := vl) rfl (wpAny_bind (wpAny_field ho hd (x := vu) rfl (wpAny_bind (wpAny_field ho hd (x := vs) rfl (wpAny_pure ?_)))))))
    refine wpAny_bind (HT.slicePart_ ps ?_)
    show wpAny _ _ (if ((-1 : Int) == 0) = true then _ else _) _ _ s
    rw [if_neg (by decide)]
    refine wpAny_bind (HT.slicePart_ pl (wpAny_bind (HT.slicePart_ pu (wpAny_bind (wpAny_pure ?_)))))
    show wpAny _ _ (pure ((its.toArray.size : Int) - 1, (-1 : Int), Builtin.Slice.slicePlaces ((its.toArray.size : Int) - 1) (-1) (-1))) _ _ s
    rw [List.size_toArray, places_rev]
    exact wpAny_pure h
  refine wpAny_bind (app ?_)
  have hno : ¬ (((((its.length : Int) - 1) == 0) && ((-1 : Int) == 1) && (its.length == its.toArray.size)) = true) := by simp
  show wpAny _ _ (if ((((its.length : Int) - 1) == 0) && ((-1 : Int) == 1) && (its.length == its.toArray.size)) = true then _ else _) _ _ s
  rw [if_neg hno, range_revI]
  first
    | exact wpAny_bind (m := Builtin.Tuple.tupleExact _) (wpAny_newObj_type (wpAny_pure ⟨_, rfl, wpAny_pure h⟩) hz)
    | exact wpAny_bind (m := Builtin.Tuple.tupleExact _) (wpAny_newObj_type (wpAny_bind (wpAny_pure (wpAny_pure ⟨_, rfl, wpAny_pure h⟩))) hz)
    | exact wpAny_bind (wpAny_bind (m := Builtin.Tuple.tupleExact _) (wpAny_newObj_type (wpAny_pure (wpAny_pure ⟨_, rfl, wpAny_pure h⟩)) hz))
    | exact wpAny_bind (wpAny_bind (m := Builtin.Tuple.tupleExact _) (wpAny_newObj_type (wpAny_pure ⟨_, rfl, wpAny_pure h⟩) hz))
end
def tRevT (K : PySem.W.Frag) (te : TE) : TE := fun σ H Q => te σ H fun x H1 => ∃ a xs, x = .ref a ∧ SqT K H1 a xs ∧ ∀ p, H1 p = none → Q (.ref p) (upd H1 p (.tup xs.reverse))
def dRevT (f : DTE) : DTE := fun Γ μ Q E => f Γ μ (fun d μ1 => match lk μ1 d with
  | .tup xs => Q (.tup xs.reverse) μ1
  | _ => False) E
section
variable {X : Cx} {W : WX} {a b e o : Expr} {k : Nat} {q1 q2 q3 pos p apos : Pos} {fa fb : DTE}
theorem pe_revT {te : TE} (he : PE X e te) : PE X (.Subscript e (.Slice none none (some (.UnaryOp .USub (.Constant (.int 1) k q1) q2)) q3) pos) (tRevT X.K te) := by
  refine ⟨fun pins s σ H Q I h => ?_⟩
  apply Subscript_
  refine thn (he.run pins s σ H _ I h) ?_
  rintro v s1 ⟨x, H1, I1, r1, a, xs, rfl, hx, q⟩
  have stp : PO X (some (.UnaryOp .USub (.Constant (.int 1) k q1) q2)) (tPart (tUn (rU fun i => .int (-i)) (tC (.int 1)))) := po_some (pe_un un_neg pe_int)
  apply wpAny_Slice
  refine thn (po_none.run pins s1 σ H1 (fun o H2 => o = none ∧ H2 = H1) I1 ⟨rfl, rfl⟩) ?_
  rintro vl s2 ⟨l, H2, I2, pl, rfl, rfl⟩
  refine thn (po_none.run pins s2 σ H2 (fun o H3 => o = none ∧ H3 = H2) I2 ⟨rfl, rfl⟩) ?_
  rintro vu s3 ⟨u, H3, I3, pu, rfl, rfl⟩
  refine thn (stp.run pins s3 σ H3 (fun o H4 => o = some (-1) ∧ H4 = H3) I3 ⟨1, rfl, -1, rfl, rfl, rfl⟩) ?_
  rintro vs s4 ⟨o, H4, I4, psx, rfl, rfl⟩
  have I5 : Inv X pins σ H4 { s4 with heap := s4.heap.push { cls := .type "slice", data := .fields #[vl, vu, vs] } } := I4.kept (t' := s4.toks) (fun b ob q => Heap.get?_push_of_some _ q)
  cases r1
  obtain ⟨its, r, ht, hz⟩ := I5.tuple hx
  have hlen := r.length
  refine tail_any (ops := [.ref a, .ref s4.heap.objs.size]) ht.typeIs (PyProof.Rows.slot_tuple_getitem.lookup) ?_ (by with_unfolding_all rfl)
  refine getItem_tuple_back ht (Heap.IsSliceOf.new _ vl vu vs) pl pu psx (by omega) ?_
  refine ⟨.ref _, _, I5.laid (t' := s4.toks) (o := .tup xs.reverse) (fun b ob q => Heap.get?_push_of_some _ q) (Nat.le_refl _) ?_, rfl, q _ (I5.hok.fresh (Nat.le_refl _))⟩
  exact ⟨by rw [List.length_reverse]; exact hz, _, r.reverse, IsTup.new _ _⟩
theorem de_revT (he : DE X W e fa) : DE X W (.Subscript e (.Slice none none (some (.UnaryOp .USub (.Constant (.int 1) k q1) q2)) q3) pos) (dRevT fa) :=
  PE.imp (pe_revT he) fun σ H Q ⟨n, Γ, μ, Qd, Ed, hH, sr, gr, h, hq, hx⟩ => by
  subst hH
  refine lift_go sr gr h (fun n1 x dx μ1 s1 r1 p1 q1 => ?_) hx
  try dsimp only at q1
  split at q1
  · rename_i xs e
    obtain ⟨a, vs, rfl, h1, _, h2⟩ := see_tup r1 p1 e
    exact ⟨a, vs, rfl, SqT.of h1, fun p hp => new_tup (LV.step hq s1) r1 hp h2.reverse q1⟩
  · exact q1.elim
/-! ### in, deep -/
def inD (x : D) (ys : List D) : Bool := ys.any fun y => PyData.eqv (D.py 11 y) (D.py 12 x)
def gInD (neg : Bool) : G2 := fun x y μ Q => match lk μ y with
  | .lst ys => (D.okn 12 (lk μ x) = true ∧ ys.all (D.okn 11) = true) ∧ Q (.bl (if neg then !inD (lk μ x) ys else inD (lk μ x) ys)) μ
  | .tup ys => (D.okn 12 (lk μ x) = true ∧ ys.all (D.okn 11) = true) ∧ Q (.bl (if neg then !inD (lk μ x) ys else inD (lk μ x) ys)) μ
  | _ => False
def rInDD (K : PySem.W.Frag) (neg : Bool) : R2 := fun x y H Q => ∃ d ds, Dp K H x d ∧ (Dp K H y (.list ds) ∨ Dp K H y (.tuple ds)) ∧ SeqAt.shaped d = true ∧ SeqAt.shaped (.list ds) = true ∧ Q (.bl (if neg then !(ds.any fun z => PyData.eqv z d) else ds.any fun z => PyData.eqv z d)) H
theorem op_inDD (hu : X.A.units + 65 < cLine) : OpR X (compareOp .In) (rInDD X.K false) := by
  intro pins s σ H x y v u Q I rx ry h
  obtain ⟨d, ds, hd, he, sd, se, q⟩ := h
  obtain ⟨as, r1⟩ := Dp.reads I d x v hd rx
  rcases he with he | he
  · obtain ⟨bs, r2⟩ := Dp.reads I (.list ds) y u he ry
    exact SeqAt.in_list_reads r2 r1 (SeqAt.canLay_of_shaped se) (SeqAt.canLay_of_shaped sd) (room_in_shaped sd hu) ⟨.bl _, H, I, rfl, q⟩
  · obtain ⟨bs, r2⟩ := Dp.reads I (.tuple ds) y u he ry
    exact SeqAt.in_tuple_reads r2 r1 (SeqAt.canLay_of_shaped se) (SeqAt.canLay_of_shaped sd) (room_in_shaped sd hu) ⟨.bl _, H, I, rfl, q⟩
theorem op_notInDD (hu : X.A.units + 65 < cLine) : OpR X (compareOp .NotIn) (rInDD X.K true) := by
  intro pins s σ H x y v u Q I rx ry h
  obtain ⟨d, ds, hd, he, sd, se, q⟩ := h
  obtain ⟨as, r1⟩ := Dp.reads I d x v hd rx
  rcases he with he | he
  · obtain ⟨bs, r2⟩ := Dp.reads I (.list ds) y u he ry
    exact SeqAt.notIn_list_reads r2 r1 (SeqAt.canLay_of_shaped se) (SeqAt.canLay_of_shaped sd) (room_in_shaped sd hu) ⟨.bl _, H, I, rfl, q⟩
  · obtain ⟨bs, r2⟩ := Dp.reads I (.tuple ds) y u he ry
    exact SeqAt.notIn_tuple_reads r2 r1 (SeqAt.canLay_of_shaped se) (SeqAt.canLay_of_shaped sd) (room_in_shaped sd hu) ⟨.bl _, H, I, rfl, q⟩
theorem inD_any (x : D) (ys : List D) : inD x ys = (ys.map (D.py 11)).any fun z => PyData.eqv z (D.py 12 x) := by
  unfold inD
  rw [List.any_map]; rfl
theorem op_gInD {K : PySem.W.Frag} {neg : Bool} : Op2 K (rInDD K neg) (gInD neg) := fun n μ x y dx dy Qd Q s rx ry q l => by
  unfold gInD at q
  split at q
  · rename_i ys e
    have e2 : D.okn 12 (lk μ dy) = true := by rw [e]; exact q.1.2
    have g := dp_see 11 s ry e2
    have g2 := shaped_py e2
    rw [e] at g g2
    exact ⟨_, ys.map (D.py 11), dp_see 11 s rx q.1.1, .inl g, shaped_py q.1.1, g2, l.now s (.bl _) (by rw [← inD_any]; exact q.2)⟩
  · rename_i ys e
    have e2 : D.okn 12 (lk μ dy) = true := by rw [e]; exact q.1.2
    have g := dp_see 11 s ry e2
    have g2 : SeqAt.shaped (.list (ys.map (D.py 11))) = true := shaped_py (d := .lst ys) q.1.2
    rw [e] at g
    exact ⟨_, ys.map (D.py 11), dp_see 11 s rx q.1.1, .inr g, shaped_py q.1.1, g2, l.now s (.bl _) (by rw [← inD_any]; exact q.2)⟩
  · exact q.elim
theorem de_inD (hu : X.A.units + 65 < cLine) (ha : DE X W a fa) (hb : DE X W b fb) (hm : behindInMarks .In b = false := by rfl) : DE X W (.Compare a [.In] [b] pos) (dBin (gInD false) fa fb) := de_cmp (op_inDD hu) op_gInD ha hb hm
theorem de_notinD (hu : X.A.units + 65 < cLine) (ha : DE X W a fa) (hb : DE X W b fb) (hm : behindInMarks .NotIn b = false := by rfl) : DE X W (.Compare a [.NotIn] [b] pos) (dBin (gInD true) fa fb) := de_cmp (op_notInDD hu) op_gInD ha hb hm
theorem dt_inD (hu : X.A.units + 65 < cLine) (ha : DE X W a fa) (hb : DE X W b fb) (hm : behindInMarks .In b = false := by rfl) : DT X W (.Compare a [.In] [b] pos) (dTest (dBin (gInD false) fa fb)) := dt_cmp (op_inDD hu) op_gInD ha hb hm
theorem dt_notinD (hu : X.A.units + 65 < cLine) (ha : DE X W a fa) (hb : DE X W b fb) (hm : behindInMarks .NotIn b = false := by rfl) : DT X W (.Compare a [.NotIn] [b] pos) (dTest (dBin (gInD true) fa fb)) := dt_cmp (op_notInDD hu) op_gInD ha hb hm
theorem ru65 {k : Nat} {A : Around} (r : Room k A) : A.units + 65 < cLine := by have := r.un; omega
/-! ### is True -/
def gIsB (neg : Bool) : G2 := fun x y μ Q => match x, y with
  | .bl a, .bl b => Q (.bl (if neg then !decide (a = b) else decide (a = b))) μ
  | _, _ => False
theorem op_gIsB {K : PySem.W.Frag} : Op2 K rIsB (gIsB false) := fun n μ x y dx dy Qd Q s rx ry q l => by
  cases rx <;> first | (exact q.elim; done) | skip
  cases ry <;> first | (exact q.elim; done) | skip
  exact ⟨_, _, rfl, rfl, l.now s (.bl _) q⟩
theorem op_gIsNotB {K : PySem.W.Frag} : Op2 K rNotB (gIsB true) := fun n μ x y dx dy Qd Q s rx ry q l => by
  cases rx <;> first | (exact q.elim; done) | skip
  cases ry <;> first | (exact q.elim; done) | skip
  exact ⟨_, _, rfl, rfl, l.now s (.bl _) q⟩
theorem de_isB (ha : DE X W a fa) (hb : DE X W b fb) : DE X W (.Compare a [.Is] [b] pos) (dBin (gIsB false) fa fb) := de_cmp op_isBl op_gIsB ha hb (nomark _)
theorem dt_isB (ha : DE X W a fa) (hb : DE X W b fb) : DT X W (.Compare a [.Is] [b] pos) (dTest (dBin (gIsB false) fa fb)) := dt_cmp op_isBl op_gIsB ha hb (nomark _)
theorem de_isnotB (ha : DE X W a fa) (hb : DE X W b fb) : DE X W (.Compare a [.IsNot] [b] pos) (dBin (gIsB true) fa fb) := de_cmp op_notBl op_gIsNotB ha hb (nomark _)
theorem dt_isnotB (ha : DE X W a fa) (hb : DE X W b fb) : DT X W (.Compare a [.IsNot] [b] pos) (dTest (dBin (gIsB true) fa fb)) := dt_cmp op_notBl op_gIsNotB ha hb (nomark _)
/-! ### str(i) -/
def gStr : GN := fun ds μ Q => match ds with
  | [.int i] => i.natAbs.log2 < 1920 ∧ Q (.str (toString i)) μ
  | _ => False
theorem de_strC (hg : Gl X "str") (hm : X.mg "str" = none) (ha : DE X W a fa) (hs : starEach [a] X.env = (false, eval a X.env) :: starEach [] X.env := by rfl) : DE X W (.Call (.Name "str" p) [a] [] pos) (dCall gStr (dCons fa dNil)) :=
  de_callTy call_str_int (fun n μ xs ds Qd Q s r q l => by
    unfold gStr at q
    split at q
    · cases r with
      | cons r1 r2 => cases r2; cases r1; exact ⟨_, rfl, q.1, l.now s (.str _) q.2⟩
    · exact q.elim) hg hm (by decide +kernel) (da_cons ha da_nil hs) (he := hs)
/-! ### l.pop() -/
def dPop0 (fo : DTE) : DTE := fun Γ μ Q E => fo Γ μ (fun x μ1 => match x with
  | .ref l => (match μ1[l]? with
    | some (.lst xs) => (match xs[xs.length - 1]? with | some y => Q y (μ1.set l (.lst xs.dropLast)) | none => False)
    | _ => False)
  | _ => False) E
theorem de_pop0 (ho : DE X W o fa) (hbase : attributeBase o "pop" X.env (eval o X.env) = eval o X.env := by rfl) (hline : (apos.endLine == pos.line) = true := by rfl) : DE X W (.Call (.Attribute o "pop" apos) [] [] pos) (dPop0 fa) :=
  PE.imp (pe_bm0 PySem.F.plainAttrs_list PySem.F.slot_list_pop PySem.F.type_list_pop mt_pop ho hbase hline) fun σ H Q ⟨n, Γ, μ, Qd, Ed, hH, sr, gr, h, hq, hx⟩ => by
  subst hH
  refine lift_go sr gr h (fun n1 x dx μ1 s1 r1 p1 q1 => ?_) hx
  cases p1 with
  | @ref l a hl =>
    dsimp only at q1
    split at q1
    · rename_i xs e
      split at q1
      · rename_i y e2
        obtain ⟨hb, vs, h1, h2⟩ := r1.cell _ _ _ hl e
        obtain ⟨v, h3, h4⟩ := h2.get e2
        refine ⟨.inl ⟨rfl, vs, SqL.of h1⟩, a, vs, v, rfl, rfl, h1, by rw [h2.length]; exact h3, ?_⟩
        exact hq (n1.more a (.lst vs.dropLast)) v y _ (s1.trans (Step.write hl)) (r1.write hl hb (c := .lst xs.dropLast) ⟨hb, _, upd_same, h2.dropLast⟩ (fun k z => by cases z)) h4 q1
      · exact q1.elim
    · exact q1.elim
  | _ => exact q1.elim
end
/-! ### dict displays -/
def keyOfD : D → Option Key
  | .int i => some (.inl i)
  | .str x => some (.inr x)
  | _ => none
def keysD : List (D × D) → Option (List (Key × D))
  | [] => some []
  | (k, v) :: r => match keyOfD k, keysD r with
    | some k, some r => some ((k, v) :: r)
    | _, _ => none
def putKD (kvs : List (Key × D)) (k : Key) (v : D) : List (Key × D) :=
  if (kvs.any fun kv => decide (kv.1 = k)) = true then kvs.map (fun kv => if kv.1 = k then (kv.1, v) else kv) else kvs ++ [(k, v)]
def mergeKD (kvs more : List (Key × D)) : List (Key × D) := more.foldl (fun acc kv => putKD acc kv.1 kv.2) kvs
def dFinD (fz : Bool) (acc : List (Key × D)) (μ : Mu) (Q : D → Mu → Prop) : Prop := match fz with
  | true => Q (.dct acc) μ
  | false => Q (.ref μ.length) (μ ++ [.dct acc])
def dPairs : List (DTE × DTE) → Gam → Mu → (List (D × D) → Mu → Prop) → (Exn → Mu → Prop) → Prop
  | [], _, μ, Q, _ => Q [] μ
  | (fk, fv) :: r, Γ, μ, Q, E => fk Γ μ (fun x μ1 => fv Γ μ1 (fun y μ2 => dPairs r Γ μ2 (fun ps μ3 => Q ((x, y) :: ps) μ3) E) E) E
def dDict (fz : Bool) (trs : List (DTE × DTE)) : DTE := fun Γ μ Q E => dPairs trs Γ μ (fun ps μ1 => match keysD ps with
  | some kvs => kvs.length ≤ 15 ∧ dFinD fz (mergeKD [] kvs) μ1 Q
  | none => False) E
/-- a dict of the layer and one of the deep layer -/
def RepK (K : PySem.W.Frag) (Hb : Hp) (al : List Addr) (us : List (Key × V)) (kvs : List (Key × D)) : Prop := kvs.map (·.1) = us.map (·.1) ∧ Reps K Hb al (us.map (·.2)) (kvs.map (·.2))
section
variable {K : PySem.W.Frag} {Hb : Hp} {al : List Addr}
theorem RepK.nil : RepK K Hb al [] [] := ⟨rfl, .nil⟩
theorem RepK.snoc {us : List (Key × V)} {kvs : List (Key × D)} {k : Key} {v : V} {d : D} (h : RepK K Hb al us kvs) (r : Rep K Hb al v d) : RepK K Hb al (us ++ [(k, v)]) (kvs ++ [(k, d)]) :=
  ⟨by simp [h.1], by simpa using h.2.append (.cons r .nil)⟩
theorem RepK.put : ∀ {us : List (Key × V)} {kvs : List (Key × D)} {k : Key} {v : V} {d : D}, RepK K Hb al us kvs → Rep K Hb al v d → RepK K Hb al (putK us k v) (putKD kvs k d) := fun {us kvs k v d} h r => by
  have e : (us.any fun kv => decide (kv.1 = k)) = (kvs.any fun kv => decide (kv.1 = k)) := by
    have e1 : (us.any fun kv => decide (kv.1 = k)) = ((us.map (·.1)).any fun q => decide (q = k)) := by rw [List.any_map]; rfl
    have e2 : (kvs.any fun kv => decide (kv.1 = k)) = ((kvs.map (·.1)).any fun q => decide (q = k)) := by rw [List.any_map]; rfl
    rw [e1, e2, h.1]
  unfold putK putKD
  rw [e]
  split
  · have aux : ∀ {us : List (Key × V)} {kvs : List (Key × D)}, kvs.map (·.1) = us.map (·.1) → Reps K Hb al (us.map (·.2)) (kvs.map (·.2)) → RepK K Hb al (us.map (fun kv => if kv.1 = k then (kv.1, v) else kv)) (kvs.map (fun kv => if kv.1 = k then (kv.1, d) else kv)) := fun {us} => by
      induction us with
      | nil => intro kvs e1 e2; cases kvs with
        | nil => exact RepK.nil
        | cons _ _ => simp at e1
      | cons a us ih =>
        intro kvs e1 e2
        cases kvs with
        | nil => simp at e1
        | cons b kvs =>
          simp only [List.map_cons, List.cons.injEq] at e1
          simp only [List.map_cons] at e2
          cases e2 with
          | cons x1 x2 =>
            obtain ⟨y1, y2⟩ := ih e1.2 x2
            refine ⟨?_, ?_⟩
            · simp only [List.map_cons]
              rw [y1]
              congr 1
              rw [← e1.1]
              split <;> simp [e1.1]
            · simp only [List.map_cons]
              refine .cons ?_ y2
              rw [← e1.1]
              split
              · exact r
              · exact x1
    exact aux h.1 h.2
  · exact h.snoc r
theorem RepK.merge : ∀ {ms : List (Key × V)} {mds : List (Key × D)} {us : List (Key × V)} {kvs : List (Key × D)}, RepK K Hb al ms mds → RepK K Hb al us kvs → RepK K Hb al (mergeK us ms) (mergeKD kvs mds) := fun {ms} => by
  induction ms with
  | nil =>
    intro mds us kvs h1 h2
    cases mds with
    | nil => exact h2
    | cons _ _ => simp [RepK] at h1
  | cons a ms ih =>
    intro mds us kvs h1 h2
    cases mds with
    | nil => simp [RepK] at h1
    | cons b mds =>
      obtain ⟨e1, e2⟩ := h1
      simp only [List.map_cons, List.cons.injEq] at e1
      simp only [List.map_cons] at e2
      cases e2 with
      | cons x1 x2 =>
        have := ih (us := putK us a.1 a.2) (kvs := putKD kvs b.1 b.2) ⟨e1.2, x2⟩ (by rw [e1.1]; exact h2.put x1)
        exact this
theorem keysD_of : ∀ {ps : List (D × D)} {kvs : List (Key × D)} {qs : List (V × V)}, keysD ps = some kvs → Reps K Hb al (qs.map (·.1)) (ps.map (·.1)) → Reps K Hb al (qs.map (·.2)) (ps.map (·.2)) → ∃ us : List (Key × V), qs = us.map (fun kv => (kV kv.1, kv.2)) ∧ RepK K Hb al us kvs
  | [], kvs, qs, h, r1, r2 => by
    cases qs with
    | nil => cases h; exact ⟨[], rfl, RepK.nil⟩
    | cons _ _ => cases r1
  | (k, v) :: ps, kvs, qs, h, r1, r2 => by
    cases qs with
    | nil => cases r1
    | cons q qs =>
      simp only [List.map_cons] at r1 r2
      cases r1 with
      | cons a1 a2 =>
        cases r2 with
        | cons b1 b2 =>
          simp only [keysD] at h
          split at h
          · rename_i k' r' ek er
            cases h
            obtain ⟨us, e, hr⟩ := keysD_of er a2 b2
            obtain ⟨q1, q2⟩ := q
            have hk : q1 = kV k' := by
              cases k <;> simp [keyOfD] at ek
              · subst ek
                have a1' : Rep K Hb al q1 (.int _) := a1
                cases a1'; rfl
              · subst ek
                have a1' : Rep K Hb al q1 (.str _) := a1
                cases a1'; rfl
            refine ⟨(k', q2) :: us, ?_, ?_, ?_⟩
            · simp only [List.map_cons, ← e, hk]
            · simp only [List.map_cons, hr.1]
            · simp only [List.map_cons]
              exact .cons b1 hr.2
          · cases h
end
inductive DPs (X : Cx) (W : WX) : List (Option Expr) → List Expr → List (DTE × DTE) → Prop
  | nil : DPs X W [] [] []
  | cons {k v : Expr} {ks : List (Option Expr)} {vs : List Expr} {fk fv : DTE} {trs : List (DTE × DTE)} : DE X W k fk → DE X W v fv → DPs X W ks vs trs → DPs X W (some k :: ks) (v :: vs) ((fk, fv) :: trs)
section
variable {X : Cx} {W : WX} {pos : Pos}
theorem DPs.pps {ks : List (Option Expr)} {vs : List Expr} {trs : List (DTE × DTE)} (h : DPs X W ks vs trs) : PPs X pos ks vs (trs.map fun z => (lift X.K W z.1, lift X.K W z.2)) := by
  induction h with
  | nil => exact pps_nil
  | cons h1 h2 _ ih => exact pps_cons h1 h2 ih
theorem pairs_go {K : PySem.W.Frag} {Γ : Gam} {σ : L2.St} {Ed : Exn → Mu → Prop} : ∀ (trs : List (DTE × DTE)) {n : Now} {μ : Mu} {Qd : List (D × D) → Mu → Prop} {Q : List (V × V) → Hp → Prop}, SR0 K n μ → GR K n Γ σ → dPairs trs Γ μ Qd Ed →
    (∀ n' qs ps μ', Step n n' → SR0 K n' μ' → Reps K n'.Hb n'.al (qs.map (·.1)) (ps.map (·.1)) → Reps K n'.Hb n'.al (qs.map (·.2)) (ps.map (·.2)) → Qd ps μ' → Q qs n'.H) → XLink K W n Γ σ Ed → tPairs (trs.map fun z => (lift K W z.1, lift K W z.2)) σ n.H Q
  | [], n, μ, Qd, Q, sr, gr, h, hq, hx => hq n [] [] μ (Step.refl n) sr .nil .nil h
  | (fk, fv) :: trs, n, μ, Qd, Q, sr, gr, h, hq, hx => by
    refine lift_go sr gr h (fun n1 x dx μ1 s1 r1 p1 q1 => lift_go r1 (gr.step s1) q1 (fun n2 y dy μ2 s2 r2 p2 q2 => ?_) (hx.step s1)) hx
    refine pairs_go trs r2 ((gr.step s1).step s2) q2 (fun n3 qs ps μ3 s3 r3 a b q3 => ?_) ((hx.step s1).step s2)
    exact hq n3 ((x, y) :: qs) ((dx, dy) :: ps) μ3 ((s1.trans s2).trans s3) r3 (.cons ((s2.trans s3).rep p1) a) (.cons (s3.rep p2) b) q3
theorem de_dict (fz : Bool) {ks : List (Option Expr)} {vs : List Expr} {trs : List (DTE × DTE)} (h : DPs X W ks vs trs) (hall : ks.all (·.isSome) = true := by rfl) (hl : ks.length = vs.length := by rfl) (h0 : ks ≠ [] := by simp) (h15 : ks.length ≤ 15 := by decide) :
    DE X W (.Dict ks vs pos) (dDict fz trs) := PE.imp (pe_disp h.pps hall hl h0 h15) fun σ H Q ⟨n, Γ, μ, Qd, Ed, hH, sr, gr, h, hq, hx⟩ => by
  subst hH
  intro p hp
  have hid : Hid (n.more p (.dK [])) p := ⟨sr.hb hp, sr.nal hp, sr.nph hp⟩
  have s0 : Step n (n.more p (.dK [])) := Step.other (Step.refl n) hp
  refine pairs_go (n := n.more p (.dK [])) trs (sr.other ⟨hid.b, hid.a, hid.ph⟩) (gr.step s0) h (fun n1 qs ps μ1 s1 r1 a b q1 => ?_) (hx.step s0)
  obtain ⟨hid1, hp1⟩ := hid.step upd_same s1
  refine ⟨hp1, ?_⟩
  try dsimp only at q1
  split at q1
  · rename_i kvs e
    obtain ⟨us, eq, hr⟩ := keysD_of e a b
    have hlk : us.length = kvs.length := by have := congrArg List.length hr.1; simpa using this.symm
    have hm := RepK.merge hr (RepK.nil (K := X.K) (Hb := n1.Hb) (al := n1.al))
    refine ⟨us, eq, by rw [hlk]; exact q1.1, ?_⟩
    have s2 : Step n (n1.more p (.dK (mergeK [] us))) := Step.other (s0.trans s1) hp
    have r2 : SR0 X.K (n1.more p (.dK (mergeK [] us))) μ1 := r1.other hid1
    have hid2 : Hid (n1.more p (.dK (mergeK [] us))) p := ⟨hid1.b, hid1.a, hid1.ph⟩
    have q2 := q1.2
    unfold dFinD at q2
    cases fz with
    | true =>
      refine hq ⟨upd n1.Hb p (.dK (mergeK [] us)), upd n1.H p (.dK (mergeK [] us)), n1.al, n1.ph⟩ _ (.dct (mergeKD [] kvs)) μ1 (Step.adopt s2 hp hid2) (r2.adopt hid2 upd_same) ?_ q2
      have z : Rep X.K (upd n1.Hb p (.dK (mergeK [] us))) n1.al (.ref p) (.dct (((mergeK [] us).map (·.1)).zip ((mergeKD [] kvs).map (·.2)))) := .dct upd_same rfl (hm.2.mono (same_upd hid1.b) (List.prefix_refl _))
      rw [zip_maps _ _ hm.1] at z
      exact z
    | false =>
      refine hq ⟨n1.Hb, upd n1.H p (.dK (mergeK [] us)), n1.al ++ [p], n1.ph⟩ _ (.ref μ1.length) (μ1 ++ [Cell.dct (mergeKD [] kvs)]) (Step.adoptC s2 hp) (r2.adoptC hid2 upd_same (c := .dct (mergeKD [] kvs)) ⟨hid1.b, _, upd_same, hm.1, hm.2.mono (Same.refl _) (List.prefix_append _ _)⟩ (fun k z => by cases z)) (.ref ?_) q2
      show (n1.al ++ [p])[μ1.length]? = _
      rw [← r1.len]; simp
  · exact q1.elim
end
end DV

/-! Readings: comprehensions and loops by an invariant; the oracle's place in the cells. -/
namespace DV
open PySem PySem.Spec PyProof.Rows L2
theorem comp_invA {src : Option (Nat × List D)} {g : D → Gam → Mu → (Gam → Prop) → Prop} {tt : DTT} {te : DTE} {Γ : Gam} {Q : List D → Mu → Prop} (I : Nat → List D → Mu → Prop) : ∀ (ds acc : List D) (μ : Mu) (k : Nat),
    (∀ i d acc μ, ds[i]? = some d → I (k + i) acc μ → Gd src μ ∧ ∀ (K1 : D → Mu → Prop) (K2 : Mu → Prop), (∀ y μ3, I (k + i + 1) (acc ++ [y]) μ3 → K1 y μ3) → (∀ μ2, I (k + i + 1) acc μ2 → K2 μ2) → g d Γ μ fun Γ1 => tt Γ1 μ (fun b μ2 => cond b (te Γ1 μ2 K1 fun _ _ => False) (K2 μ2)) fun _ _ => False) →
    acc.length + ds.length ≤ sizeLine → I k acc μ → (∀ acc μ, I (k + ds.length) acc μ → Gd src μ ∧ Q acc μ) → dCompL src g tt te Γ ds acc μ Q
  | [], acc, μ, k, _, _, h0, he => he acc μ h0
  | d :: ds, acc, μ, k, hs, hl, h0, he => by
    rw [List.length_cons] at hl
    obtain ⟨h1, h2⟩ := hs 0 d acc μ rfl h0
    refine ⟨h1, h2 _ _ (fun y μ3 hi => ⟨by omega, ?_⟩) (fun μ2 hi => ?_)⟩
    · refine comp_invA I ds _ μ3 (k + 1) (fun i e acc μ he hi => ?_) (by simp; omega) hi (fun acc μ hi => ?_)
      · have := hs (i + 1) e acc μ (by simpa using he) (by rw [show k + (i + 1) = k + 1 + i from by omega]; exact hi)
        rw [show k + (i + 1) + 1 = k + 1 + i + 1 from by omega] at this
        exact this
      · exact he acc μ (by rw [List.length_cons, show k + (ds.length + 1) = k + 1 + ds.length from by omega]; exact hi)
    · refine comp_invA I ds _ μ2 (k + 1) (fun i e acc μ he hi => ?_) (by omega) hi (fun acc μ hi => ?_)
      · have := hs (i + 1) e acc μ (by simpa using he) (by rw [show k + (i + 1) = k + 1 + i from by omega]; exact hi)
        rw [show k + (i + 1) + 1 = k + 1 + i + 1 from by omega] at this
        exact this
      · exact he acc μ (by rw [List.length_cons, show k + (ds.length + 1) = k + 1 + ds.length from by omega]; exact hi)
/-- a comprehension by an invariant: the turn's number, what is gathered, the cells -/
theorem comp_inv {src : Option (Nat × List D)} {g : D → Gam → Mu → (Gam → Prop) → Prop} {tt : DTT} {te : DTE} {Γ : Gam} {Q : List D → Mu → Prop} (I : Nat → List D → Mu → Prop) {ds : List D} {μ : Mu} (h0 : I 0 [] μ) (hl : ds.length ≤ sizeLine)
    (hs : ∀ i d acc μ, ds[i]? = some d → I i acc μ → Gd src μ ∧ ∀ (K1 : D → Mu → Prop) (K2 : Mu → Prop), (∀ y μ3, I (i + 1) (acc ++ [y]) μ3 → K1 y μ3) → (∀ μ2, I (i + 1) acc μ2 → K2 μ2) → g d Γ μ fun Γ1 => tt Γ1 μ (fun b μ2 => cond b (te Γ1 μ2 K1 fun _ _ => False) (K2 μ2)) fun _ _ => False)
    (he : ∀ acc μ, I ds.length acc μ → Gd src μ ∧ Q acc μ) : dCompL src g tt te Γ ds [] μ Q :=
  comp_invA I ds [] μ 0 (fun i d acc μ h => by rw [Nat.zero_add]; exact hs i d acc μ h) (by simpa using hl) h0 (fun acc μ h => he acc μ (by simpa using h))
theorem loop_invA {src : Option (Nat × List D)} {g : DTG} {body : DTS} {De : DEnds} (I : Nat → Gam → Mu → Prop) : ∀ (ds : List D) (Γ : Gam) (μ : Mu) (k : Nat),
    (∀ i d Γ μ, ds[i]? = some d → I (k + i) Γ μ → Gd src μ ∧ ∀ (Kn : Gam → Mu → Prop), (∀ Γ' μ', I (k + i + 1) Γ' μ' → Kn Γ' μ') → g d Γ μ (fun Γ1 μ1 => body { De with nx := Kn, ct := Kn, bk := De.nx } Γ1 μ1) (fun x μ1 => De.ex x Γ μ1)) →
    I k Γ μ → (∀ Γ μ, I (k + ds.length) Γ μ → Gd src μ ∧ De.nx Γ μ) → dLoop src g body ds De Γ μ
  | [], Γ, μ, k, _, h0, he => he Γ μ h0
  | d :: ds, Γ, μ, k, hs, h0, he => by
    obtain ⟨h1, h2⟩ := hs 0 d Γ μ rfl h0
    refine ⟨h1, h2 _ fun Γ' μ' hi => ?_⟩
    refine loop_invA I ds Γ' μ' (k + 1) (fun i e Γ μ he hi => ?_) hi (fun Γ μ hi => ?_)
    · have := hs (i + 1) e Γ μ (by simpa using he) (by rw [show k + (i + 1) = k + 1 + i from by omega]; exact hi)
      rw [show k + (i + 1) + 1 = k + 1 + i + 1 from by omega] at this
      exact this
    · exact he Γ μ (by rw [List.length_cons, show k + (ds.length + 1) = k + 1 + ds.length from by omega]; exact hi)
theorem loop_inv {src : Option (Nat × List D)} {g : DTG} {body : DTS} {De : DEnds} (I : Nat → Gam → Mu → Prop) {ds : List D} {Γ : Gam} {μ : Mu} (h0 : I 0 Γ μ)
    (hs : ∀ i d Γ μ, ds[i]? = some d → I i Γ μ → Gd src μ ∧ ∀ (Kn : Gam → Mu → Prop), (∀ Γ' μ', I (i + 1) Γ' μ' → Kn Γ' μ') → g d Γ μ (fun Γ1 μ1 => body { De with nx := Kn, ct := Kn, bk := De.nx } Γ1 μ1) (fun x μ1 => De.ex x Γ μ1))
    (he : ∀ Γ μ, I ds.length Γ μ → Gd src μ ∧ De.nx Γ μ) : dLoop src g body ds De Γ μ :=
  loop_invA I ds Γ μ 0 (fun i d Γ μ h => by rw [Nat.zero_add]; exact hs i d Γ μ h) h0 (fun Γ μ h => he Γ μ (by simpa using h))
theorem irng_get {lo : Int} {n i : Nat} {d : D} (h : (irng lo n)[i]? = some d) : i < n ∧ d = .int (lo + i) := by
  unfold irng at h
  rw [List.getElem?_map, Option.map_eq_some_iff] at h
  obtain ⟨j, h1, h2⟩ := h
  obtain ⟨h3, h4⟩ := List.getElem?_eq_some_iff.mp h1
  simp at h3 h4
  subst h4
  exact ⟨h3, h2.symm⟩
theorem irng_len (lo : Int) (n : Nat) : (irng lo n).length = n := by simp [irng]
/-! the oracle's cell -/
def M (μ : Mu) (l c : Nat) : Mu := μ.set l (.orc (c, true))
theorem M_get {μ : Mu} {l c : Nat} (h : l < μ.length) : (M μ l c)[l]? = some (.orc (c, true)) := by unfold M; rw [List.getElem?_set_self h]
theorem M_set {μ : Mu} {l c c' : Nat} : (M μ l c).set l (.orc (c', true)) = M μ l c' := by unfold M; rw [List.set_set]
theorem M_id {μ : Mu} {l c : Nat} (h : μ[l]? = some (.orc (c, true))) : M μ l c = μ := by
  obtain ⟨h1, h2⟩ := List.getElem?_eq_some_iff.mp h
  unfold M
  rw [← h2, List.set_getElem_self]
theorem M_len {μ : Mu} {l c : Nat} : (M μ l c).length = μ.length := by unfold M; rw [List.length_set]
theorem M_app {μ loc : Mu} {l c : Nat} (h : l < μ.length) : M (μ ++ loc) l c = M μ l c ++ loc := by unfold M; rw [List.set_append_left _ _ h]
theorem M_ne {μ : Mu} {l c j : Nat} (h : l ≠ j) : (M μ l c)[j]? = μ[j]? := by unfold M; rw [List.getElem?_set_ne h]
theorem M_upd {μ : Mu} {l c : Nat} : Upd μ (M μ l c) := (Upd.refl μ).set rfl
theorem orc_lt {μ : Mu} {l c : Nat} (h : μ[l]? = some (.orc (c, true))) : l < μ.length := (List.getElem?_eq_some_iff.mp h).1
theorem draw_M {μ : Mu} {l c : Nat} {m : Int} {Q : D → Mu → Prop} {E : Exn → Mu → Prop} (h : l < μ.length) (hc : 0 < c) (hm : 0 < m) (hm2 : m.natAbs < 2 ^ 60) (q : ∀ d, 0 ≤ d → d < m → Q (.int d) (M μ l (c - 1))) : S_draw [.ref l, .int m] (M μ l c) Q E :=
  draw_go (M_get h) hc hm (Nat.lt_of_lt_of_le (PySem.Flt.log2_lt_of (by decide) hm2) (by decide)) fun d h1 h2 => by rw [M_set]; exact q d h1 h2
/-! equality of texts, and of rows of them -/
theorem eqv_strs : ∀ (k j : Nat) (xs ys : List Str), PyData.eqv (.list ((xs.map D.str).map (D.py k))) (.list ((ys.map D.str).map (D.py j))) = decide (xs = ys) := by
  intro k j xs ys
  have e1 : (xs.map D.str).map (D.py k) = xs.map PyData.str := by
    rw [List.map_map]; congr 1; funext x; cases k <;> rfl
  have e2 : (ys.map D.str).map (D.py j) = ys.map PyData.str := by
    rw [List.map_map]; congr 1; funext x; cases j <;> rfl
  rw [e1, e2]
  simp only [PyData.eqv]
  have aux : ∀ xs ys : List Str, PyData.eqvAll (xs.map .str) (ys.map .str) = decide (xs = ys) := by
    intro xs
    induction xs with
    | nil => intro ys; cases ys <;> simp [PyData.eqvAll]
    | cons x xs ih =>
      intro ys
      cases ys with
      | nil => simp [PyData.eqvAll]
      | cons y ys =>
        simp only [List.map_cons, PyData.eqvAll, PyData.eqv, ih, List.cons.injEq]
        by_cases h : x = y <;> simp [h]
  exact aux xs ys
theorem okn_strs {xs : List Str} (h : ∀ x ∈ xs, asc x) (k : Nat) : (xs.map D.str).all (D.okn k) = true := by
  rw [List.all_eq_true]
  intro d hd
  obtain ⟨t, ht, rfl⟩ := List.mem_map.mp hd
  cases k <;> exact asc_ok (h t ht)
theorem deq_tupS {μ : Mu} {xs ys : List Str} (h1 : ∀ x ∈ xs, asc x) (h2 : ∀ x ∈ ys, asc x) : deqOk μ (.tup (xs.map .str)) (.tup (ys.map .str)) ∧ deq μ (.tup (xs.map .str)) (.tup (ys.map .str)) = decide (xs = ys) := by
  refine ⟨⟨okn_strs h1 11, okn_strs h2 11⟩, ?_⟩
  have := eqv_strs 11 11 xs ys
  unfold deq
  simp only [lk, D.py, PyData.eqv] at this ⊢
  exact this
end DV

/-! Words: plain facts on the names that a law draws. -/
namespace DV
open PySem PySem.Spec PyProof.Rows L2
def SG : Str := "abcdefghijklmnopqrstuvwxyz0123456789"
theorem sg_len : SG.length = 36 := by decide +kernel
theorem sg_low : ∀ i : Nat, i < 26 → SG.cps.toList[i]? = some (97 + i) := by decide +kernel
theorem sg_all : ∀ i : Nat, i < 36 → ∃ c, SG.cps.toList[i]? = some c ∧ isAln c = true ∧ c < 128 := by decide +kernel
theorem low_let : ∀ i : Nat, i < 26 → isLet (97 + i) = true ∧ isAln (97 + i) = true := by decide +kernel
theorem sg_at {i : Int} (h0 : 0 ≤ i) (h1 : i < 36) : ∃ c, atI SG.cps.toList i = some c ∧ isAln c = true ∧ c < 128 := by
  obtain ⟨c, h2, h3⟩ := sg_all i.toNat (by omega)
  exact ⟨c, atI_nat' h0 h2, h3⟩
theorem sg_let {i : Int} (h0 : 0 ≤ i) (h1 : i < 26) : atI SG.cps.toList i = some (97 + i.toNat) := atI_nat' h0 (sg_low i.toNat (by omega))
/-- a word of letters and digits -/
def aln (z : Str) : Prop := ∀ c ∈ z.cps.toList, isAln c = true ∧ c < 128
theorem aln_asc {z : Str} (h : aln z) : asc z := fun c hc => (h c hc).2
theorem aln_app2 {a b : Str} (ha : aln a) (hb : aln b) : aln (a ++ b) := fun c hc => by
  rw [cps_app] at hc
  rcases List.mem_append.mp hc with h | h
  · exact ha c h
  · exact hb c h
theorem aln_one {c : Nat} (h : isAln c = true) (h2 : c < 128) : aln ⟨#[c]⟩ := fun d hd => by
  have : d = c := by simpa using hd
  subst this; exact ⟨h, h2⟩
theorem aln_nil : aln "" := fun c hc => by
  have : (Str.ofString "").cps.toList = [] := by decide +kernel
  exact absurd (show c ∈ (Str.ofString "").cps.toList from hc) (by rw [this]; simp)
theorem aln_join {ts : List Str} (h : ∀ t ∈ ts, aln t) : aln (Txt.join "" ts) := fun c hc => by
  rw [TL.join_eq, join0] at hc
  obtain ⟨l, hl, hcl⟩ := List.mem_flatten.mp hc
  obtain ⟨t, ht, rfl⟩ := List.mem_map.mp hl
  exact h t ht c hcl
theorem valid_of {z : Str} {c : Nat} {r : List Nat} (h : aln z) (e : z.cps.toList = c :: r) (hc : isLet c = true) (hl : z.length ≤ 6) : validN z = true := by
  unfold validN validC
  have h1 : z.cps.toList.length ≤ 6 := by rw [← len_list]; exact hl
  have h2 : z.cps.toList.all isAln = true := List.all_eq_true.mpr fun d hd => (h d hd).1
  rw [h2]
  rw [e] at h1 ⊢
  simp only [hc, Bool.and_true]
  simp at h1 ⊢
  omega
theorem valid_asc {z : Str} (h : validN z = true) : asc z ∧ z.length ≤ 6 ∧ 1 ≤ z.length := by
  unfold validN validC at h
  simp only [Bool.and_eq_true, decide_eq_true_eq] at h
  obtain ⟨⟨⟨h1, h2⟩, h3⟩, h4⟩ := h
  have z1 : ∀ c ∈ LET.cps.toList, c < 128 := by decide +kernel
  have z2 : ∀ c ∈ DIG.cps.toList, c < 128 := by decide +kernel
  refine ⟨fun c hc => ?_, by rw [len_list]; exact h2, by rw [len_list]; exact h1⟩
  have q := List.all_eq_true.mp h4 c hc
  unfold isAln at q
  simp only [Bool.or_eq_true, decide_eq_true_eq] at q
  exact q.elim (z1 c) (z2 c)
/-! numbers below 64 as texts -/
def digs (i : Nat) : List Nat := if i < 10 then [48 + i] else [48 + i / 10, 48 + i % 10]
theorem dig_str : ∀ i : Nat, i < 100 → (Str.ofString (toString (i : Int))).cps.toList = digs i := by decide +kernel
theorem digs_inj {i j : Nat} (hi : i < 100) (hj : j < 100) (h : digs i = digs j) : i = j := by
  unfold digs at h
  split at h <;> split at h <;> simp at h <;> omega
theorem dig_aln : ∀ i : Nat, i < 10 → isAln (48 + i) = true := by decide +kernel
theorem digs_aln {i : Nat} (hi : i < 100) : ∀ c ∈ digs i, isAln c = true ∧ c < 128 := by
  intro c hc
  unfold digs at hc
  split at hc
  · have : c = 48 + i := by simpa using hc
    subst this; exact ⟨dig_aln i (by omega), by omega⟩
  · simp at hc
    rcases hc with rfl | rfl
    · exact ⟨dig_aln _ (by omega), by omega⟩
    · exact ⟨dig_aln _ (by omega), by omega⟩
theorem digs_len (i : Nat) : (digs i).length ≤ 2 := by unfold digs; split <;> simp
theorem str_ext {a b : Str} (h : a.cps.toList = b.cps.toList) : a = b := by
  cases a with | mk x => cases b with | mk y => simp at h; subst h; rfl
/-- what is known of drawn names -/
structure Wds (k : Nat) (ws : List Str) : Prop where
  len : ws.length = k
  nd : ws.Nodup
  ok : ∀ w ∈ ws, validN w = true
theorem wds_map {k : Nat} {f : Nat → Str} (hv : ∀ i, i < k → validN (f i) = true) (hi : ∀ i j, i < k → j < k → f i = f j → i = j) : Wds k ((List.range k).map f) := by
  refine ⟨by simp, ?_, fun w hw => ?_⟩
  · rw [List.nodup_iff_pairwise_ne, List.pairwise_map]
    refine List.Pairwise.imp_of_mem (fun {a b} ha hb hne e => hne (hi a b (List.mem_range.mp ha) (List.mem_range.mp hb) e)) (List.nodup_iff_pairwise_ne.mp List.nodup_range)
  · obtain ⟨i, h1, rfl⟩ := List.mem_map.mp hw
    exact hv i (List.mem_range.mp h1)
end DV

local macro_rules | `(tactic| walk_at "dv") => `(tactic| try simp only [DV.dSeq, DV.dIf, DV.dOrT, DV.dAndT, DV.dNotT, DV.dTest, DV.dChain, DV.dC, DV.dCall, DV.gLen, DV.dCons, DV.dVar, DV.dNil, DV.dBin, DV.dUn, DV.gNeg, DV.gIn, DV.gIx, DV.dRet, DV.dRetN, DV.dNext, DV.dFor, DV.dIter, DV.dName, DV.lk, DV.dAsg, DV.dDrop, DV.gLst, DV.gTup, DV.gLstM, DV.gAdd, DV.gI, DV.gMod, DV.gMul, DV.gFdiv, DV.gPow, DV.gAbs, DV.gInt, DV.gList, DV.gTuple, DV.dOp, DV.dOpK, DV.dIsi, DV.tyD, DV.gIs, DV.gIsNot, DV.D.isN, DV.dJoin, DV.dCellM, DV.dSetI, DV.dSlice, DV.dPart, DV.dNoPart, DV.dRevA, DV.dFin, DV.dAugI, DV.dComp, DV.wipeG, DV.cName, DV.cPair, DV.dYes, DV.dRange1, DV.dRange2, DV.dAnd, DV.dOr, DV.dNot, DV.dIfE, DV.gEq, DV.gNe, DV.sgn_one, DV.atI_zero, DV.dTruth, DV.truD, DV.dBreak, DV.dCont, DV.gSorted, DV.dSortK, DV.dRevT, DV.gInD, DV.gIsB, DV.gStr, DV.dPop0, DV.dDict, DV.dPairs, DV.keysD, DV.keyOfD, DV.dFinD, DV.dFld, DV.dSetF, DV.dMake, DV.dMethod, DV.dProp, DV.dOwnIx, DV.dNever,
  List.getElem?_cons_zero, List.getElem?_cons_succ, List.set_cons_zero, List.set_cons_succ, List.map_cons, List.map_nil, List.length_cons, List.length_nil, List.replicate, List.cons_append, List.nil_append, DV.start0, if_true, if_false, Bool.not_true, Bool.not_false, Bool.false_eq_true, Bool.true_and, Bool.and_true, Bool.or_true, Bool.true_or, Bool.false_or, Bool.or_false, eq_self_iff_true, not_true_eq_false, not_false_eq_true, ite_true, ite_false, cond_true, cond_false])
/-! The reading of the law's own `_law_names`. -/
namespace DV
open PySem PySem.Spec PyProof.Rows L2
def t_names_11 : DTS := dRet (dVar 10)
def t_names_10 : DTS := dSeq (dFor (dRange1 (dVar 1)) (dName 11) (dSeq (dAsg (dBin gIx (dVar 2) (dBin gMod (dCall gInt (dCons (dBin gAdd (dVar 5) (dBin gMul (dVar 6) (dVar 11))) dNil)) (dC (.int 26)))) (dName 12)) (dSeq (dAsg (dBin gIx (dCall gLst (dCons (dVar 3) (dCons (dC (.str "")) (dNil)))) (dCall gInt (dCons (dAnd (dBin (gI fun i j => .bl (decide (j < i))) (dVar 7) (dC (.int 1))) (dBin gEq (dBin gMod (dVar 11) (dC (.int 2))) (dC (.int 1)))) dNil))) (dName 13)) (dDrop (dCellM cAppend (dVar 10) (dCons (dBin gIx (dCall gLst (dCons (dBin gAdd (dBin gAdd (dVar 4) (dVar 13)) (dVar 12)) (dCons (dBin gAdd (dVar 12) (dVar 13)) (dNil)))) (dBin gMod (dCall gInt (dCons (dVar 7) dNil)) (dC (.int 2)))) dNil)))))) t_names_11
def t_names_9 : DTS := dSeq (dAsg (dCall gLstM (dNil)) (dName 10)) t_names_10
def t_names_8 : DTS := dSeq (dIf (dTest (dBin gEq (dVar 7) (dC (.int 5)))) (dSeq (dAsg (dBin gAdd (dVar 4) (dJoin (dC (.str "")) (dComp true [11] (dRange1 (dC (.int 5))) (cName 11) (dYes) (dBin gIx (dVar 2) (dOp S_draw (dCons (dVar 0) (dCons (dC (.int 36)) (dNil)))))))) (dName 9)) (dRet (dComp true [11] (dRange1 (dVar 1)) (cName 11) (dYes) (dSlice true (dVar 9) dNoPart (dPart (dBin gAdd (dVar 11) (dC (.int 1)))))))) (dNext)) t_names_9
def t_names_7 : DTS := dSeq (dIf (dOrT (dTest (dBin gEq (dVar 7) (dC (.int 4)))) (dAndT (dTest (dBin gEq (dVar 7) (dC (.int 5)))) (dTest (dBin (gI fun i j => .bl (decide (j < i))) (dVar 1) (dC (.int 6)))))) (dSeq (dAsg (dBin gAdd (dC (.int 1)) (dOp S_draw (dCons (dVar 0) (dCons (dC (.int 9)) (dNil))))) (dName 8)) (dRet (dComp true [11] (dRange1 (dVar 1)) (cName 11) (dYes) (dBin gAdd (dVar 4) (dCall gStr (dCons (dBin gMul (dVar 8) (dBin gAdd (dVar 11) (dC (.int 1)))) dNil)))))) (dNext)) t_names_8
def t_names_6 : DTS := dSeq (dIf (dAndT (dTest (dBin gEq (dVar 7) (dC (.int 6)))) (dTest (dBin (gI fun i j => .bl (decide (i < j))) (dVar 1) (dC (.int 7))))) (dRet (dSlice true (dCall gLst (dCons (dC (.str "rows")) (dCons (dC (.str "leaf")) (dCons (dC (.str "x")) (dCons (dC (.str "x1")) (dCons (dC (.str "x10")) (dCons (dC (.str "none")) (dNil)))))))) dNoPart (dPart (dVar 1)))) (dNext)) t_names_7
def t_names_5 : DTS := dSeq (dAsg (dOp S_draw (dCons (dVar 0) (dCons (dC (.int 7)) (dNil)))) (dName 7)) t_names_6
def t_names_4 : DTS := dSeq (dAsg (dBin gIx (dCall gLst (dCons (dC (.int 1)) (dCons (dC (.int 3)) (dCons (dC (.int 5)) (dCons (dC (.int 7)) (dCons (dC (.int 9)) (dCons (dC (.int 11)) (dNil)))))))) (dOp S_draw (dCons (dVar 0) (dCons (dC (.int 6)) (dNil))))) (dName 6)) t_names_5
def t_names_3 : DTS := dSeq (dAsg (dOp S_draw (dCons (dVar 0) (dCons (dC (.int 26)) (dNil)))) (dName 5)) t_names_4
def t_names_2 : DTS := dSeq (dAsg (dBin gIx (dVar 2) (dOp S_draw (dCons (dVar 0) (dCons (dC (.int 26)) (dNil))))) (dName 4)) t_names_3
def t_names_1 : DTS := dSeq (dAsg (dJoin (dC (.str "")) (dComp true [11] (dRange1 (dOp S_draw (dCons (dVar 0) (dCons (dC (.int 5)) (dNil))))) (cName 11) (dYes) (dBin gIx (dVar 2) (dOp S_draw (dCons (dVar 0) (dCons (dC (.int 36)) (dNil))))))) (dName 3)) t_names_2
def t_names : DTS := dSeq (dAsg (dC (.str "abcdefghijklmnopqrstuvwxyz0123456789")) (dName 2)) t_names_1
def S_names : DSp := fun ds μ Q _ => ∃ l c k, ds = [.ref l, .int k] ∧ μ[l]? = some (.orc (c, true)) ∧ 20 ≤ c ∧ 0 ≤ k ∧ k ≤ 8 ∧
  ∀ c' ws, c' ≤ c → c ≤ c' + 20 → Wds k.toNat ws → Q (.lst (ws.map .str)) (μ.set l (.orc (c', true)))
/-- signs drawn of SG, i at a time -/
theorem comp_sg {μ : Mu} {l c : Nat} {Γ : Gam} {Q : List D → Mu → Prop} {n : Nat} (hl : l < μ.length) (hn : n ≤ 100) (hc : n ≤ c) (g0 : Γ[0]? = some (some (.ref l))) (g2 : Γ[2]? = some (some (.str SG)))
    (q : ∀ ts : List Str, ts.length = n → (∀ t ∈ ts, aln t ∧ t.length = 1) → Q (ts.map .str) (M μ l (c - n))) :
    dCompL none (cName 11) dYes (dBin gIx (dVar 2) (dOp S_draw (dCons (dVar 0) (dCons (dC (.int 36)) dNil)))) Γ (irng 0 n) [] (M μ l c) Q := by
  refine comp_inv (fun i acc μ' => ∃ ts : List Str, acc = ts.map .str ∧ ts.length = i ∧ (∀ t ∈ ts, aln t ∧ t.length = 1) ∧ i ≤ n ∧ μ' = M μ l (c - i)) ⟨[], rfl, rfl, by simp, by omega, by simp⟩ (by rw [irng_len, sizeLine_eq]; omega) ?_ ?_
  · rintro i d acc μ' hd ⟨ts, rfl, h1, h2, h3, rfl⟩
    obtain ⟨hi, rfl⟩ := irng_get hd
    refine ⟨trivial, fun K1 K2 k1 k2 => ?_⟩
    have e0 : (Γ.set 11 (some (D.int (0 + (i : Int)))))[0]? = some (some (.ref l)) := by rw [List.getElem?_set_ne (by decide)]; exact g0
    have e2 : (Γ.set 11 (some (D.int (0 + (i : Int)))))[2]? = some (some (.str SG)) := by rw [List.getElem?_set_ne (by decide)]; exact g2
    simp only [cName, dYes, cond_true, dBin, dVar, e0, e2, dOp, dCons, dC, dNil]
    refine draw_M hl (by omega) (by decide) (by decide) fun j j0 j1 => ?_
    obtain ⟨ch, a1, a2, a3⟩ := sg_at j0 j1
    simp only [gIx, lk, a1]
    refine ⟨by rw [sg_len, sizeLine_eq]; omega, k1 _ _ ⟨ts ++ [⟨#[ch]⟩], by simp, by simp [h1], fun t ht => ?_, by omega, by congr 1⟩⟩
    rcases List.mem_append.mp ht with z | z
    · exact h2 t z
    · rw [List.mem_singleton.mp z]; exact ⟨aln_one a2 a3, rfl⟩
  · rintro acc μ' ⟨ts, rfl, h1, h2, h3, rfl⟩
    rw [irng_len] at h1 h3 ⊢
    exact ⟨trivial, q ts h1 h2⟩
/-- the end of names: a list as data -/
theorem names_end {μ : Mu} {l c c' : Nat} {k : Int} {ws : List Str} {Q : D → Mu → Prop} (hc : c' ≤ c) (hc2 : c ≤ c' + 20) (hw : Wds k.toNat ws) (q : ∀ c' ws, c' ≤ c → c ≤ c' + 20 → Wds k.toNat ws → Q (.lst (ws.map .str)) (μ.set l (.orc (c', true)))) :
    FnEnd μ (.lst (ws.map .str)) (M μ l c') Q := by
  refine FnEnd.pure0 M_upd ?_ (q c' ws hc hc2 hw)
  show D.puL _ = true
  clear hw q
  induction ws with
  | nil => rfl
  | cons w ws ih => exact ih
theorem len_pre (c : Nat) (z : Str) : ((⟨#[c]⟩ : Str) ++ z).cps.toList = c :: z.cps.toList := by rw [cps_app]; rfl
theorem len_one1 (c : Nat) : (⟨#[c]⟩ : Str).length = 1 := rfl
theorem lenz (z : Str) : (Str.ofString "").length = 0 := by decide +kernel
/-- the words letter + back + sign, or sign + back -/
theorem wds_signs {k : Int} {stem : Str} {lc : Nat} {o st : Int} {plan : Int} (hk0 : 0 ≤ k) (hk : k ≤ 8) (ha : aln stem) (hs : stem.length ≤ 4) (hl : lc < 26) (ho : 0 ≤ o ∧ o < 26) (hst : st = 1 ∨ st = 3 ∨ st = 5 ∨ st = 7 ∨ st = 9 ∨ st = 11) (back : Nat → Str) (hb : ∀ i, back i = stem ∨ back i = "") :
    Wds k.toNat ((List.range k.toNat).map fun i => if plan % 2 = 0 then (⟨#[97 + lc]⟩ : Str) ++ back i ++ ⟨#[97 + ((o + st * i) % 26).toNat]⟩ else (⟨#[97 + ((o + st * i) % 26).toNat]⟩ : Str) ++ back i) := by
  have sg : ∀ i : Nat, ((o + st * i) % 26).toNat < 26 := fun i => by have := Int.emod_lt_of_pos (o + st * i) (show (0 : Int) < 26 by decide); have := Int.emod_nonneg (o + st * i) (show (26 : Int) ≠ 0 by decide); omega
  have hba : ∀ i, aln (back i) ∧ (back i).length ≤ 4 := fun i => by
    rcases hb i with e | e <;> rw [e]
    · exact ⟨ha, hs⟩
    · exact ⟨aln_nil, by rw [lenz stem]; omega⟩
  have inj : ∀ i j : Nat, i < k.toNat → j < k.toNat → ((o + st * i) % 26).toNat = ((o + st * j) % 26).toNat → i = j := fun i j hi hj e => by
    have a1 := Int.emod_nonneg (o + st * i) (show (26 : Int) ≠ 0 by decide)
    have a2 := Int.emod_nonneg (o + st * j) (show (26 : Int) ≠ 0 by decide)
    rcases hst with rfl | rfl | rfl | rfl | rfl | rfl <;> omega
  refine wds_map (fun i hi => ?_) fun i j hi hj e => ?_
  · obtain ⟨b1, b2⟩ := hba i
    split
    · refine valid_of (aln_app2 (aln_app2 (aln_one (low_let lc hl).2 (by omega)) b1) (aln_one (low_let _ (sg i)).2 (by have := sg i; omega))) (c := 97 + lc) (r := (back i).cps.toList ++ [97 + ((o + st * i) % 26).toNat]) ?_ (low_let lc hl).1 ?_
      · rw [cps_app, len_pre]; rfl
      · rw [len_app, len_app, len_one1, len_one1]; omega
    · refine valid_of (aln_app2 (aln_one (low_let _ (sg i)).2 (by have := sg i; omega)) b1) (len_pre _ _) (low_let _ (sg i)).1 ?_
      rw [len_app, len_one1]; omega
  · refine inj i j hi hj ?_
    split at e
    · have e2 := congrArg (fun z : Str => z.cps.toList.getLast?) e
      have g : ∀ (a : Str) (c : Nat), (a ++ (⟨#[c]⟩ : Str)).cps.toList.getLast? = some c := fun a c => by rw [cps_app]; exact List.getLast?_concat
      simp only [g, Option.some.injEq] at e2
      omega
    · have e2 := congrArg (fun z : Str => z.cps.toList) e
      simp only [len_pre, List.cons.injEq] at e2
      omega
/-- letter + str(step * (k + 1)) -/
theorem wds_nums {k : Int} {lc : Nat} {st : Int} (hk0 : 0 ≤ k) (hk : k ≤ 8) (hl : lc < 26) (h1 : 1 ≤ st) (h2 : st ≤ 9) : Wds k.toNat ((List.range k.toNat).map fun i : Nat => (⟨#[97 + lc]⟩ : Str) ++ Str.ofString (toString (st * ((i : Int) + 1)))) := by
  have b : ∀ i : Nat, i < k.toNat → 0 ≤ st * ((i : Int) + 1) ∧ st * ((i : Int) + 1) < 100 := fun i hi => by
    have : st = 1 ∨ st = 2 ∨ st = 3 ∨ st = 4 ∨ st = 5 ∨ st = 6 ∨ st = 7 ∨ st = 8 ∨ st = 9 := by omega
    rcases this with rfl | rfl | rfl | rfl | rfl | rfl | rfl | rfl | rfl <;> omega
  have ds : ∀ i : Nat, i < k.toNat → (Str.ofString (toString (st * ((i : Int) + 1)))).cps.toList = digs (st * ((i : Int) + 1)).toNat := fun i hi => by
    have := dig_str (st * ((i : Int) + 1)).toNat (by have := b i hi; omega)
    rw [show (((st * ((i : Int) + 1)).toNat : Nat) : Int) = st * ((i : Int) + 1) from by have := b i hi; omega] at this
    exact this
  refine wds_map (fun i hi => ?_) fun i j hi hj e => ?_
  · have h3 : aln (Str.ofString (toString (st * ((i : Int) + 1)))) := fun c hc => by
      rw [ds i hi] at hc
      exact digs_aln (by have := b i hi; omega) c hc
    refine valid_of (aln_app2 (aln_one (low_let lc hl).2 (by omega)) h3) (len_pre _ _) (low_let lc hl).1 ?_
    rw [len_app, len_one1, len_list, ds i hi]
    have := digs_len (st * ((i : Int) + 1)).toNat
    omega
  · have e2 := congrArg (fun z : Str => z.cps.toList) e
    simp only [len_pre, List.cons.injEq, true_and] at e2
    rw [ds i hi, ds j hj] at e2
    have e3 := digs_inj (by have := b i hi; omega) (by have := b j hj; omega) e2
    have e4 : st * ((i : Int) + 1) = st * ((j : Int) + 1) := by have := b i hi; have := b j hj; omega
    have : st = 1 ∨ st = 2 ∨ st = 3 ∨ st = 4 ∨ st = 5 ∨ st = 6 ∨ st = 7 ∨ st = 8 ∨ st = 9 := by omega
    rcases this with rfl | rfl | rfl | rfl | rfl | rfl | rfl | rfl | rfl <;> omega
theorem menu6 {i : Int} (h0 : 0 ≤ i) (h1 : i < 6) : ∃ b : Int, atI [D.int 1, D.int 3, D.int 5, D.int 7, D.int 9, D.int 11] i = some (.int b) ∧ (b = 1 ∨ b = 3 ∨ b = 5 ∨ b = 7 ∨ b = 9 ∨ b = 11) := by
  have : i = 0 ∨ i = 1 ∨ i = 2 ∨ i = 3 ∨ i = 4 ∨ i = 5 := by omega
  rcases this with rfl | rfl | rfl | rfl | rfl | rfl
  · exact ⟨1, rfl, by simp⟩
  · exact ⟨3, rfl, by simp⟩
  · exact ⟨5, rfl, by simp⟩
  · exact ⟨7, rfl, by simp⟩
  · exact ⟨9, rfl, by simp⟩
  · exact ⟨11, rfl, by simp⟩
theorem nodupC : Wds 6 (["rows", "leaf", "x", "x1", "x10", "none"] : List Str) := ⟨rfl, by decide +kernel, by decide +kernel⟩
theorem cut_to {α : Type} (xs : List α) {k : Int} (h0 : 0 ≤ k) : cutL xs none (some k) = xs.take k.toNat := by
  unfold cutL
  have h1 : HT.sIx xs.length 0 none = 0 := rfl
  have h2 : HT.sIx xs.length xs.length (some k) = min k.toNat xs.length := by
    simp only [HT.sIx]
    first | (split <;> omega) | omega
  rw [h1, h2]
  simp only [List.drop_zero, Nat.sub_zero]
  rcases Nat.le_total k.toNat xs.length with h | h
  · rw [Nat.min_eq_left h]
  · rw [Nat.min_eq_right h, List.take_of_length_le h, List.take_length]
def wordAt (stem : Str) (lc : Nat) (o st plan : Int) (i : Nat) : Str := if plan % 2 = 0 then (⟨#[97 + lc]⟩ : Str) ++ (if 1 < plan ∧ i % 2 = 1 then Str.ofString "" else stem) ++ ⟨#[97 + ((o + st * i) % 26).toNat]⟩ else (⟨#[97 + ((o + st * i) % 26).toNat]⟩ : Str) ++ (if 1 < plan ∧ i % 2 = 1 then Str.ofString "" else stem)
theorem names_9 {μ : Mu} {l c c' lc : Nat} {k o st plan : Int} {stem : Str} {Q : D → Mu → Prop} {E : Exn → Mu → Prop} (hl : l < μ.length) (hk0 : 0 ≤ k) (hk8 : k ≤ 8) (hc1 : c' ≤ c) (hc2 : c ≤ c' + 9) (ha : aln stem) (hs : stem.length ≤ 4) (hlc : lc < 26) (ho : 0 ≤ o ∧ o < 26)
    (hst : st = 1 ∨ st = 3 ∨ st = 5 ∨ st = 7 ∨ st = 9 ∨ st = 11) (hp : 0 ≤ plan ∧ plan < 7) (q : ∀ c' ws, c' ≤ c → c ≤ c' + 20 → Wds k.toNat ws → Q (.lst (ws.map .str)) (μ.set l (.orc (c', true)))) :
    t_names_9 (dFn μ Q E) [some (.ref l), some (.int k), some (.str SG), some (.str stem), some (.str ⟨#[97 + lc]⟩), some (.int o), some (.int st), some (.int plan), none, none, none, none, none, none] (M μ l c') := by
  unfold t_names_9
  walk_at "dv"
  refine ⟨by decide, ?_⟩
  unfold t_names_10
  walk_at "dv"
  rw [M_len]
  refine ⟨by omega, loop_inv (fun i Γ μ' => ∃ x11 x12 x13, Γ = [some (.ref l), some (.int k), some (.str SG), some (.str stem), some (.str ⟨#[97 + lc]⟩), some (.int o), some (.int st), some (.int plan), none, none, some (.ref μ.length), x11, x12, x13] ∧ i ≤ k.toNat ∧
    μ' = M μ l c' ++ [.lst (((List.range i).map (wordAt stem lc o st plan)).map .str)]) ⟨none, none, none, rfl, by omega, rfl⟩ ?_ ?_⟩
  · rintro i d Γ μ' hd ⟨x11, x12, x13, rfl, hi, rfl⟩
    obtain ⟨hi, rfl⟩ := irng_get hd
    refine ⟨trivial, fun Kn kn => ?_⟩
    have em : (o + st * (0 + (i : Int))).fmod 26 = (o + st * i) % 26 := by rw [Int.fmod_eq_emod_of_nonneg _ (by decide), Int.zero_add]
    have a1 := Int.emod_nonneg (o + st * i) (show (26 : Int) ≠ 0 by decide)
    have a2 := Int.emod_lt_of_pos (o + st * i) (show (0 : Int) < 26 by decide)
    have gx : (M μ l c' ++ [Cell.lst (((List.range i).map (wordAt stem lc o st plan)).map D.str)])[μ.length]? = some (.lst (((List.range i).map (wordAt stem lc o st plan)).map D.str)) := by rw [List.getElem?_append_right (by rw [M_len]; omega), M_len]; simp
    walk_at "dv"
    refine ⟨by rcases hst with rfl | rfl | rfl | rfl | rfl | rfl <;> simp, by decide, by rw [sg_len, sizeLine_eq]; omega, ?_⟩
    rw [em, sg_let a1 a2]
    dsimp only
    refine ⟨by rw [sizeLine_eq]; omega, ?_⟩
    have pm : plan.fmod 2 = plan % 2 := Int.fmod_eq_emod_of_nonneg _ (by decide)
    have im : (0 + (i : Int)).fmod 2 = ((i % 2 : Nat) : Int) := by rw [Int.fmod_eq_emod_of_nonneg _ (by decide)]; omega
    have ld : ∀ z : Str, lk (M μ l c' ++ [Cell.lst (((List.range i).map (wordAt stem lc o st plan)).map D.str)]) (D.str z) = D.str z := fun _ => rfl
    have fin : ∀ (w : Str) (x12 x13 : Option D), w = wordAt stem lc o st plan i → Kn [some (.ref l), some (.int k), some (.str SG), some (.str stem), some (.str ⟨#[97 + lc]⟩), some (.int o), some (.int st), some (.int plan), none, none, some (.ref μ.length), some (.int (0 + (i : Int))), x12, x13]
        (List.set (M μ l c' ++ [Cell.lst (((List.range i).map (wordAt stem lc o st plan)).map D.str)]) μ.length (Cell.lst (((List.range i).map (wordAt stem lc o st plan)).map D.str ++ [D.str w]))) := fun w x12 x13 hw => by
      refine kn _ _ ⟨_, _, _, rfl, by omega, ?_⟩
      rw [List.set_append_right _ _ (by rw [M_len]; omega), M_len, Nat.sub_self, List.set_cons_zero, List.range_succ, List.map_append, List.map_append, hw]
      rfl
    have ap : ∀ d, cAppend (((List.range i).map (wordAt stem lc o st plan)).map D.str) [d] = some (.non, ((List.range i).map (wordAt stem lc o st plan)).map D.str ++ [d]) := fun d => by
      unfold cAppend
      dsimp only
      rw [if_pos (by simp only [List.length_map, List.length_range, sizeLine_eq]; omega)]
    have z0 : (Str.ofString "").length = 0 := by decide +kernel
    have i0 : ∀ a b : D, atI [a, b] 0 = some a := fun _ _ => rfl
    have i1 : ∀ a b : D, atI [a, b] 1 = some b := fun _ _ => rfl
    have di : decide ((0 + (i : Int)).fmod 2 = 1) = decide (i % 2 = 1) := by rw [im]; by_cases h : i % 2 = 1 <;> simp [h] <;> omega
    simp only [deq_int, di, pm, gx]
    have hs2 : stem.length + 8 ≤ sizeLine := by rw [sizeLine_eq]; omega
    have n1 : ∀ c : Nat, (⟨#[c]⟩ : Str).length = 1 := fun _ => rfl
    rcases (by omega : plan % 2 = 0 ∨ plan % 2 = 1) with h2 | h2 <;> by_cases h1 : 1 < plan <;> by_cases h3 : i % 2 = 1 <;>
      simp only [h1, h2, h3, decide_true, decide_false, cond_true, cond_false, if_true, if_false, i0, i1, ap, gx, Bool.false_eq_true, ld, lk]
    all_goals
      repeat (refine And.intro (by first | decide | exact deqOk_int _ _ _ | (simp only [len_app, n1, z0]; omega)) ?_)
      exact fin _ _ _ (by unfold wordAt; simp [h1, h2, h3])
  · rintro Γ μ' ⟨x11, x12, x13, rfl, hi, rfl⟩
    rw [irng_len]
    refine ⟨trivial, ?_⟩
    unfold t_names_11
    walk_at "dv"
    have hw := wds_signs (plan := plan) hk0 hk8 ha hs hlc ho hst (fun i => if 1 < plan ∧ i % 2 = 1 then Str.ofString "" else stem) (fun i => by split <;> simp)
    refine .inr ⟨M μ l c', _, rfl, M_upd, .inr (.inr (.inr (.inl ⟨0, _, by rw [M_len]; rfl, rfl, ?_, ?_⟩)))⟩
    · have aux : ∀ ws : List Str, D.puL (ws.map D.str) = true := fun ws => by
        induction ws with
        | nil => rfl
        | cons w ws ih => exact ih
      exact aux _
    · exact q c' _ hc1 (by omega) hw
theorem comp_rng {v : Nat} {te : DTE} {Γ : Gam} {μ : Mu} {Q : List D → Mu → Prop} {n : Nat} (g : Nat → D) (hn : n ≤ sizeLine) (h : ∀ i, i < n → ∀ K1 : D → Mu → Prop, K1 (g i) μ → te (Γ.set v (some (.int (0 + (i : Int))))) μ K1 (fun _ _ => False)) (q : Q ((List.range n).map g) μ) :
    dCompL none (cName v) dYes te Γ (irng 0 n) [] μ Q := by
  refine comp_inv (fun i acc μ' => acc = (List.range i).map g ∧ μ' = μ) ⟨rfl, rfl⟩ (by rw [irng_len]; exact hn) ?_ ?_
  · rintro i d acc μ' hd ⟨rfl, rfl⟩
    obtain ⟨hi, rfl⟩ := irng_get hd
    refine ⟨trivial, fun K1 K2 k1 k2 => h i hi K1 (k1 _ _ ⟨?_, rfl⟩)⟩
    rw [List.range_succ, List.map_append]; rfl
  · rintro acc μ' ⟨rfl, rfl⟩
    rw [irng_len]
    exact ⟨trivial, q⟩
theorem wds_pre {k : Int} {z : Str} {lc : Nat} {r : List Nat} (hk0 : 0 ≤ k) (hk : k ≤ 6) (ha : aln z) (hz : z.length = 6) (e : z.cps.toList = (97 + lc) :: r) (hl : lc < 26) : Wds k.toNat ((List.range k.toNat).map fun i : Nat => cutS z none (some (0 + (i : Int) + 1))) := by
  have el : ∀ i : Nat, (cutS z none (some (0 + (i : Int) + 1))).cps.toList = z.cps.toList.take (i + 1) := fun i => by
    have := cut_to z.cps.toList (k := 0 + (i : Int) + 1) (by omega)
    unfold cutL at this
    rw [← len_list] at this
    unfold cutS
    dsimp only
    rw [List.toList_toArray, this]
    congr 1
    omega
  have hz2 : z.cps.toList.length = 6 := by rw [← len_list]; exact hz
  refine wds_map (fun i hi => ?_) fun i j hi hj eq => ?_
  · refine valid_of (c := 97 + lc) (r := r.take i) (fun c hc => ?_) ?_ (low_let lc hl).1 ?_
    · rw [el i] at hc
      exact ha c (List.mem_of_mem_take hc)
    · rw [el i, e]; rfl
    · rw [len_list, el i, List.length_take]; omega
  · have e2 := congrArg (fun z : Str => z.cps.toList.length) eq
    simp only [el, List.length_take] at e2
    omega
theorem names_8 {μ : Mu} {l c c' lc : Nat} {k o st plan : Int} {stem : Str} {Q : D → Mu → Prop} {E : Exn → Mu → Prop} (hl : l < μ.length) (hk0 : 0 ≤ k) (hk8 : k ≤ 8) (hc1 : c' ≤ c) (hc2 : c ≤ c' + 9) (hc3 : 11 ≤ c') (ha : aln stem) (hs : stem.length ≤ 4) (hlc : lc < 26) (ho : 0 ≤ o ∧ o < 26)
    (hst : st = 1 ∨ st = 3 ∨ st = 5 ∨ st = 7 ∨ st = 9 ∨ st = 11) (hp : 0 ≤ plan ∧ plan < 7) (h7 : ¬ (plan = 5 ∧ 6 < k)) (q : ∀ c' ws, c' ≤ c → c ≤ c' + 20 → Wds k.toNat ws → Q (.lst (ws.map .str)) (μ.set l (.orc (c', true)))) :
    t_names_8 (dFn μ Q E) [some (.ref l), some (.int k), some (.str SG), some (.str stem), some (.str ⟨#[97 + lc]⟩), some (.int o), some (.int st), some (.int plan), none, none, none, none, none, none] (M μ l c') := by
  unfold t_names_8
  walk_at "dv"
  simp only [deq_int]
  refine ⟨deqOk_int _ _ _, ?_⟩
  by_cases h5 : plan = 5
  · simp only [h5, decide_true, cond_true]
    refine ⟨⟨_, rfl⟩, by decide, comp_sg hl (by decide) (by simp; omega) rfl rfl fun ts h1 h2 => ?_⟩
    rw [strD_map]
    have o1 : ∀ t ∈ ts, t.length = 1 := fun t ht => (h2 t ht).2
    have ht5 : ts.length = 5 := h1
    have hjl : (Txt.join (Str.ofString "") ts).length = 5 := by rw [len_join o1, ht5]
    have hja : aln (Txt.join (Str.ofString "") ts) := aln_join fun t ht => (h2 t ht).1
    refine ⟨by rw [sum_ones o1, ht5]; decide +kernel, by rw [hjl, sizeLine_eq]; show 1 + 5 ≤ _; decide, by omega, ?_⟩
    generalize Txt.join (Str.ofString "") ts = z at hjl hja ⊢
    refine comp_rng (fun i : Nat => D.str (cutS ((⟨#[97 + lc]⟩ : Str) ++ z) none (some (0 + (i : Int) + 1)))) (by rw [sizeLine_eq]; omega) (fun i hi K1 k1 => ?_) ?_
    · walk_at "dv"
      exact ⟨by rw [len_app, hjl, sizeLine_eq]; show 1 + 5 ≤ _; decide, k1⟩
    · have hw := wds_pre (k := k) (z := (⟨#[97 + lc]⟩ : Str) ++ z) (lc := lc) (r := z.cps.toList) hk0 (by omega) (aln_app2 (aln_one (low_let lc hlc).2 (by omega)) hja) (by rw [len_app, hjl]; rfl) (len_pre _ _) hlc
      have := names_end (μ := μ) (l := l) (c' := c' - Int.toNat 5) (Q := Q) (c := c) (k := k) (by simp; omega) (by simp; omega) hw q
      rw [List.map_map] at this
      exact this
  · simp only [h5, decide_false, cond_false]
    exact names_9 hl hk0 hk8 hc1 hc2 ha hs hlc ho hst hp q
theorem names_7 {μ : Mu} {l c c' lc : Nat} {k o st plan : Int} {stem : Str} {Q : D → Mu → Prop} {E : Exn → Mu → Prop} (hl : l < μ.length) (hk0 : 0 ≤ k) (hk8 : k ≤ 8) (hc1 : c' ≤ c) (hc2 : c ≤ c' + 9) (hc3 : 11 ≤ c') (ha : aln stem) (hs : stem.length ≤ 4) (hlc : lc < 26) (ho : 0 ≤ o ∧ o < 26)
    (hst : st = 1 ∨ st = 3 ∨ st = 5 ∨ st = 7 ∨ st = 9 ∨ st = 11) (hp : 0 ≤ plan ∧ plan < 7) (q : ∀ c' ws, c' ≤ c → c ≤ c' + 20 → Wds k.toNat ws → Q (.lst (ws.map .str)) (μ.set l (.orc (c', true)))) :
    t_names_7 (dFn μ Q E) [some (.ref l), some (.int k), some (.str SG), some (.str stem), some (.str ⟨#[97 + lc]⟩), some (.int o), some (.int st), some (.int plan), none, none, none, none, none, none] (M μ l c') := by
  unfold t_names_7
  walk_at "dv"
  simp only [deq_int]
  refine ⟨deqOk_int _ _ _, ?_⟩
  have tac : ∀ (j : Int), 0 ≤ j → j < 9 → dCompL none (cName 11) dYes (dBin gAdd (dVar 4) (dCall gStr (dCons (dBin gMul (dVar 8) (dBin gAdd (dVar 11) (dC (D.int 1)))) dNil)))
      [some (D.ref l), some (D.int k), some (D.str SG), some (D.str stem), some (D.str { cps := #[97 + lc] }), some (D.int o), some (D.int st), some (D.int plan), some (D.int (1 + j)), none, none, none, none, none] (irng 0 k.toNat) [] (M μ l (c' - 1)) fun acc μ2 => (dFn μ Q E).rt (D.lst acc) μ2 := fun j j0 j1 => by
    refine comp_rng (fun i : Nat => D.str ((⟨#[97 + lc]⟩ : Str) ++ Str.ofString (toString ((1 + j) * ((i : Int) + 1))))) (by rw [sizeLine_eq]; omega) (fun i hi K1 k1 => ?_) ?_
    · walk_at "dv"
      have hb : 0 ≤ (1 + j) * ((i : Int) + 1) ∧ (1 + j) * ((i : Int) + 1) < 100 := by
        have : j = 0 ∨ j = 1 ∨ j = 2 ∨ j = 3 ∨ j = 4 ∨ j = 5 ∨ j = 6 ∨ j = 7 ∨ j = 8 := by omega
        rcases this with rfl | rfl | rfl | rfl | rfl | rfl | rfl | rfl | rfl <;> omega
      have hd := dig_str ((1 + j) * ((i : Int) + 1)).toNat (by omega)
      rw [show ((((1 + j) * ((i : Int) + 1)).toNat : Nat) : Int) = (1 + j) * ((i : Int) + 1) from by omega] at hd
      rw [Int.zero_add]
      refine ⟨.inl (by omega), Nat.lt_of_lt_of_le (PySem.Flt.log2_lt_of (k := 7) (by decide) (by omega)) (by decide), ?_, k1⟩
      rw [len_list (Str.ofString _), hd, sizeLine_eq]
      have := digs_len ((1 + j) * ((i : Int) + 1)).toNat
      show 1 + _ ≤ _
      omega
    · have hw := wds_nums (k := k) (lc := lc) (st := 1 + j) hk0 hk8 hlc (by omega) (by omega)
      have := names_end (μ := μ) (l := l) (c' := c' - 1) (Q := Q) (c := c) (k := k) (by omega) (by omega) hw q
      rw [List.map_map] at this
      exact this
  by_cases h4 : plan = 4
  · simp only [h4, decide_true, cond_true]
    subst h4
    exact draw_M hl (by omega) (by decide) (by decide) fun j j0 j1 => ⟨by omega, tac j j0 j1⟩
  · simp only [h4, decide_false, cond_false]
    refine ⟨deqOk_int _ _ _, ?_⟩
    by_cases h5 : plan = 5
    · by_cases h6 : 6 < k
      · simp only [h5, h6, decide_true, cond_true]
        subst h5
        exact draw_M hl (by omega) (by decide) (by decide) fun j j0 j1 => ⟨by omega, tac j j0 j1⟩
      · simp only [h5, h6, decide_true, decide_false, cond_true, cond_false]
        subst h5
        exact names_8 hl hk0 hk8 hc1 hc2 hc3 ha hs hlc ho hst hp (fun z => h6 z.2) q
    · simp only [h5, decide_false, cond_false]
      exact names_8 hl hk0 hk8 hc1 hc2 hc3 ha hs hlc ho hst hp (fun z => h5 z.1) q
theorem names_6 {μ : Mu} {l c c' lc : Nat} {k o st plan : Int} {stem : Str} {Q : D → Mu → Prop} {E : Exn → Mu → Prop} (hl : l < μ.length) (hk0 : 0 ≤ k) (hk8 : k ≤ 8) (hc1 : c' ≤ c) (hc2 : c ≤ c' + 9) (hc3 : 11 ≤ c') (ha : aln stem) (hs : stem.length ≤ 4) (hlc : lc < 26) (ho : 0 ≤ o ∧ o < 26)
    (hst : st = 1 ∨ st = 3 ∨ st = 5 ∨ st = 7 ∨ st = 9 ∨ st = 11) (hp : 0 ≤ plan ∧ plan < 7) (q : ∀ c' ws, c' ≤ c → c ≤ c' + 20 → Wds k.toNat ws → Q (.lst (ws.map .str)) (μ.set l (.orc (c', true)))) :
    t_names_6 (dFn μ Q E) [some (.ref l), some (.int k), some (.str SG), some (.str stem), some (.str ⟨#[97 + lc]⟩), some (.int o), some (.int st), some (.int plan), none, none, none, none, none, none] (M μ l c') := by
  unfold t_names_6
  walk_at "dv"
  simp only [deq_int]
  refine ⟨deqOk_int _ _ _, ?_⟩
  by_cases h6 : plan = 6 ∧ k < 7
  · simp only [h6.1, h6.2, decide_true, cond_true]
    refine ⟨by decide, ?_⟩
    simp only [cut_to _ hk0]
    have e : List.take k.toNat [D.str (Str.ofString "rows"), D.str (Str.ofString "leaf"), D.str (Str.ofString "x"), D.str (Str.ofString "x1"), D.str (Str.ofString "x10"), D.str (Str.ofString "none")] = ((["rows", "leaf", "x", "x1", "x10", "none"] : List Str).take k.toNat).map D.str := by rw [List.map_take]; rfl
    rw [e]
    refine names_end hc1 (by omega) ⟨?_, nodupC.nd.sublist (List.take_sublist _ _), fun w hw => nodupC.ok w (List.mem_of_mem_take hw)⟩ q
    rw [List.length_take]
    simp
    omega
  · have t7 := names_7 (E := E) hl hk0 hk8 hc1 hc2 hc3 ha hs hlc ho hst hp q
    by_cases h7 : plan = 6
    · have h8 : ¬ k < 7 := fun z => h6 ⟨h7, z⟩
      simp only [h7, h8, decide_true, decide_false, cond_true, cond_false]
      subst h7
      exact t7
    · simp only [h7, decide_false, cond_false]
      exact t7
theorem rd_names {n1 n2 n3 n4 n5 n6 n7 n8 n9 n10 n11 n12 n13 n14 : Str} : ∀ ds μ Q E, S_names ds μ Q E → t_names (dFn μ Q E) (start0 [n1, n2, n3, n4, n5, n6, n7, n8, n9, n10, n11, n12, n13, n14] ds) μ := by
  rintro ds μ Q E ⟨l, c, k, rfl, hc, hc2, hk0, hk8, q⟩
  have hl := orc_lt hc
  rw [show t_names (dFn μ Q E) = t_names (dFn μ Q E) from rfl]
  have e0 : t_names (dFn μ Q E) (start0 [n1, n2, n3, n4, n5, n6, n7, n8, n9, n10, n11, n12, n13, n14] [.ref l, .int k]) (M μ l c) → t_names (dFn μ Q E) (start0 [n1, n2, n3, n4, n5, n6, n7, n8, n9, n10, n11, n12, n13, n14] [.ref l, .int k]) μ := fun h => by rw [M_id hc] at h; exact h
  refine e0 ?_
  unfold t_names
  walk_at "dv"
  unfold t_names_1
  walk_at "dv"
  refine ⟨⟨_, rfl⟩, draw_M hl (by omega) (by decide) (by decide) fun j j0 j1 => ?_⟩
  dsimp only
  refine ⟨by omega, comp_sg hl (by omega) (by omega) rfl rfl fun ts h1 h2 => ?_⟩
  simp only [lk, strD_map]
  have o1 : ∀ t ∈ ts, t.length = 1 := fun t ht => (h2 t ht).2
  refine ⟨by rw [sum_ones o1, show (Str.ofString "").length = 0 from by decide +kernel]; omega, ?_⟩
  have hst : aln (Txt.join (Str.ofString "") ts) := aln_join fun t ht => (h2 t ht).1
  have hsl : (Txt.join (Str.ofString "") ts).length ≤ 4 := by rw [len_join o1]; omega
  generalize Txt.join (Str.ofString "") ts = stem at hst hsl ⊢
  unfold t_names_2
  walk_at "dv"
  refine draw_M hl (by omega) (by decide) (by decide) fun i i0 i1 => ?_
  rw [show (Str.ofString "abcdefghijklmnopqrstuvwxyz0123456789") = SG from rfl]
  dsimp only
  rw [sg_let i0 i1]
  refine ⟨by rw [sg_len, sizeLine_eq]; omega, ?_⟩
  unfold t_names_3
  walk_at "dv"
  refine draw_M hl (by omega) (by decide) (by decide) fun o o0 o1 => ?_
  unfold t_names_4
  walk_at "dv"
  refine ⟨by rw [sizeLine_eq]; omega, draw_M hl (by omega) (by decide) (by decide) fun u u0 u1 => ?_⟩
  obtain ⟨st, e1, e2⟩ := menu6 u0 u1
  dsimp only
  simp only [e1]
  unfold t_names_5
  walk_at "dv"
  refine draw_M hl (by omega) (by decide) (by decide) fun pl p0 p1 => ?_
  exact names_6 (lc := i.toNat) hl hk0 hk8 (by omega) (by omega) (by omega) hst hsl (by omega) ⟨o0, o1⟩ e2 ⟨p0, p1⟩ q
end DV

/-! Sets of outcomes: all_sets, is_set, others; the law's own. -/
namespace DV
open PySem PySem.Spec PyProof.Rows L2
abbrev tupS (l : List Str) : D := .tup (l.map .str)
def subs (xs : List Str) : List (List Str) := xs.foldl (fun f x => f ++ f.map (· ++ [x])) [[]]
theorem subs_snoc (xs : List Str) (x : Str) : subs (xs ++ [x]) = subs xs ++ (subs xs).map (· ++ [x]) := by
  unfold subs; rw [List.foldl_append]; rfl
theorem subs_sub : ∀ {xs l : List Str}, l ∈ subs xs → l.Sublist xs := fun {xs} => by
  suffices h : ∀ ys : List Str, ∀ l, l ∈ subs ys.reverse → l.Sublist ys.reverse from fun {l} hl => by have := h xs.reverse l; rw [List.reverse_reverse] at this; exact this hl
  intro ys
  induction ys with
  | nil => intro l hl; simp [subs] at hl; subst hl; exact List.Sublist.refl _
  | cons y ys ih =>
    intro l hl
    rw [List.reverse_cons] at hl ⊢
    rw [subs_snoc] at hl
    rcases List.mem_append.mp hl with h | h
    · exact (ih l h).trans (List.sublist_append_left _ _)
    · obtain ⟨m, hm, rfl⟩ := List.mem_map.mp h
      exact (ih m hm).append (List.Sublist.refl _)
theorem subs_len (xs : List Str) : (subs xs).length = 2 ^ xs.length := by
  suffices h : ∀ ys : List Str, (subs ys.reverse).length = 2 ^ ys.length by have := h xs.reverse; simpa using this
  intro ys
  induction ys with
  | nil => rfl
  | cons y ys ih => rw [List.reverse_cons, subs_snoc, List.length_append, List.length_map, ih, List.length_cons, Nat.pow_succ]; omega
def key_set_rank (d : D) : D := match d with
  | .tup l => .tup [.int l.length, .tup l]
  | _ => d
def setsD (xs : List Str) : List D := sortBy key_set_rank ((subs xs).map tupS)
def S_set_rank : DSp := fun ds μ Q _ => ∃ l, ds = [.tup l] ∧ Q (.tup [.int l.length, .tup l]) μ
theorem sets_perm (xs : List Str) : (setsD xs).Perm ((subs xs).map tupS) := List.mergeSort_perm _ _
theorem sets_mem {xs : List Str} {d : D} (h : d ∈ setsD xs) : ∃ l, l ∈ subs xs ∧ d = tupS l := by
  obtain ⟨l, h1, h2⟩ := List.mem_map.mp ((sets_perm xs).mem_iff.mp h)
  exact ⟨l, h1, h2.symm⟩
theorem sets_len (xs : List Str) : (setsD xs).length = 2 ^ xs.length := by rw [(sets_perm xs).length_eq, List.length_map, subs_len]
theorem alike_strs : ∀ xs ys : List Str, PySem.W.alikeAll (xs.map PyData.str) (ys.map .str) = true
  | [], _ => by simp [PySem.W.alikeAll]
  | _ :: _, [] => by simp [PySem.W.alikeAll]
  | x :: xs, y :: ys => by simp [PySem.W.alikeAll, PySem.W.alike, alike_strs xs ys]
theorem py_strs (k : Nat) (xs : List Str) : (xs.map D.str).map (D.py k) = xs.map PyData.str := by
  rw [List.map_map]; congr 1; funext x; cases k <;> rfl
/-- rows of texts under their ranks can be sorted -/
theorem srt_rank {ls : List (List Str)} (h : ∀ l ∈ ls, ∀ x ∈ l, asc x) : srtOk ((ls.map tupS).map key_set_rank) := by
  have e : ∀ l : List Str, pyd (key_set_rank (tupS l)) = .tuple [.int l.length, .tuple (l.map .str)] := fun l => by
    show PyData.tuple [D.py 11 (.int ((l.map D.str).length : Nat)), D.py 11 (.tup (l.map D.str))] = _
    simp only [D.py, List.length_map, py_strs]
  rw [List.map_map]
  refine ⟨fun d hd => ?_, ?_, ?_⟩
  · obtain ⟨l, hl, rfl⟩ := List.mem_map.mp hd
    show (D.okn 11 (.int ((l.map D.str).length : Nat)) && (D.okn 11 (.tup (l.map D.str)) && true)) = true
    simp only [D.okn, Bool.true_and, Bool.and_true]
    exact okn_strs (h l hl) 10
  · rw [List.map_map]
    intro d hd d' hd'
    obtain ⟨l, _, rfl⟩ := List.mem_map.mp hd
    obtain ⟨l', _, rfl⟩ := List.mem_map.mp hd'
    show PySem.W.alike (pyd (key_set_rank (tupS l))) (pyd (key_set_rank (tupS l'))) = true
    rw [e, e]
    simp [PySem.W.alike, PySem.W.alikeAll, alike_strs]
  · rw [List.map_map]
    refine .inl fun d hd => ?_
    obtain ⟨l, _, rfl⟩ := List.mem_map.mp hd
    exact ⟨_, _, e l⟩
/-- texts can be sorted -/
theorem srt_strs {xs : List Str} (h : ∀ x ∈ xs, asc x) : srtOk (xs.map .str) := by
  refine ⟨fun d hd => ?_, ?_, ?_⟩
  · obtain ⟨l, hl, rfl⟩ := List.mem_map.mp hd
    exact asc_ok (h l hl)
  · rw [List.map_map]
    intro d hd d' hd'
    obtain ⟨l, _, rfl⟩ := List.mem_map.mp hd
    obtain ⟨l', _, rfl⟩ := List.mem_map.mp hd'
    rfl
  · rw [List.map_map]
    refine .inr fun d hd => ?_
    obtain ⟨l, _, rfl⟩ := List.mem_map.mp hd
    exact ⟨(by intro z; cases z), (by intro w z; cases z)⟩
def sortS (xs : List Str) : List Str := xs.mergeSort fun a b => leBy id (.str a) (.str b)
theorem sort_strs (xs : List Str) : sortBy id (xs.map .str) = (sortS xs).map .str := by
  unfold sortBy sortS
  rw [PySem.W.sort_maps (s := leBy id) D.str fun _ _ _ _ => rfl]
theorem sortS_perm (xs : List Str) : (sortS xs).Perm xs := List.mergeSort_perm _ _
/-! all_sets -/
structure Okp (n : Nat) (xs : List Str) : Prop where
  len : xs.length ≤ n
  ok : ∀ x ∈ xs, asc x
  sl : ∀ x ∈ xs, x.length ≤ 100
def S_all_sets : DSp := fun ds μ Q _ => ∃ xs : List Str, ds = [tupS xs] ∧ Okp 8 xs ∧ ∃ fz, dFin fz (setsD xs) μ Q
def thingOk (d : D) : Prop := (∃ ys, d = .tup ys ∧ ys.all (D.okn 11) = true) ∨ ∀ μ, ∃ t, tyD (lk μ d) = some t ∧ t ≠ .tup
def isPart (ws : List Str) (d : D) : Bool := match d with
  | .tup ys => PyData.eqv (D.py 12 (.lst ys)) (D.py 12 (.lst ((ws.map D.str).filter fun x => inD x ys)))
  | _ => false
def S_is_part : DSp := fun ds μ Q _ => ∃ ws d, ds = [tupS ws, d] ∧ Okp 8 ws ∧ thingOk d ∧ Q (.bl (isPart ws d)) μ
def S_is_set : DSp := S_is_part
def S_lis_set : DSp := S_is_part
def S_others : DSp := fun ds μ Q _ => ∃ ws us : List Str, ds = [tupS ws, tupS us] ∧ Okp 8 ws ∧ Q (tupS (ws.filter fun x => decide (x ∉ us))) μ
def S_sets : DSp := fun ds μ Q _ => ∃ xs : List Str, ds = [tupS xs] ∧ Okp 8 xs ∧ Q (.lst (setsD xs)) μ
def t_is_part : DTS := dSeq (dIf (dNotT (dTest (dIsi .tup (dVar 1)))) (dRet (dC (.bl false))) (dNext)) (dRet (dBin gEq (dCall (gList true) (dCons (dVar 1) dNil)) (dComp true [2] (dIter (dVar 0)) (cName 2) (dTest (dBin (gInD false) (dVar 2) (dVar 1))) (dVar 2))))
def t_set_rank : DTS := dRet (dCall gTup (dCons (dCall gLen (dCons (dVar 0) dNil)) (dCons (dVar 0) (dNil))))
def t_all_sets : DTS := dSeq (dAsg (dCall gLst (dCons (dCall gTup (dNil)) (dNil))) (dName 1)) (dSeq (dFor (dIter (dVar 0)) (dName 2) (dAsg (dBin gAdd (dVar 1) (dComp true [3] (dIter (dVar 1)) (cName 3) (dYes) (dBin gAdd (dVar 3) (dCall gTup (dCons (dVar 2) (dNil)))))) (dName 1))) (dRet (dSortK false S_set_rank key_set_rank (dVar 1))))
def t_is_set : DTS := dRet (dOp S_is_part (dCons (dVar 0) (dCons (dVar 1) (dNil))))
def t_others : DTS := dRet (dCall gTuple (dCons (dComp true [2] (dIter (dVar 0)) (cName 2) (dTest (dBin (gIn true) (dVar 2) (dVar 1))) (dVar 2)) dNil))
def t_sets : DTS := dSeq (dAsg (dCall gLst (dCons (dCall gTup (dNil)) (dNil))) (dName 1)) (dSeq (dFor (dIter (dVar 0)) (dName 2) (dAsg (dBin gAdd (dVar 1) (dComp true [4] (dIter (dVar 1)) (cName 4) (dYes) (dBin gAdd (dVar 4) (dCall gTup (dCons (dVar 2) (dNil)))))) (dName 1))) (dRet (dComp true [3] (dIter (dCall (gSorted true) (dCons (dComp true [4] (dIter (dVar 1)) (cName 4) (dYes) (dCall gTup (dCons (dCall gLen (dCons (dVar 4) dNil)) (dCons (dVar 4) (dNil))))) dNil))) (cName 3) (dYes) (dBin gIx (dVar 3) (dC (.int 1))))))
def t_lis_set : DTS := dSeq (dIf (dNotT (dTest (dIsi .tup (dVar 1)))) (dRet (dC (.bl false))) (dNext)) (dRet (dBin gEq (dCall (gList true) (dCons (dVar 1) dNil)) (dComp true [2] (dIter (dVar 0)) (cName 2) (dTest (dBin (gInD false) (dVar 2) (dCall (gList true) (dCons (dVar 1) dNil)))) (dVar 2))))
theorem rd_set_rank {n1 : Str} : ∀ ds μ Q E, S_set_rank ds μ Q E → t_set_rank (dFn μ Q E) (start0 [n1] ds) μ := by
  rintro ds μ Q E ⟨l, rfl, q⟩
  unfold t_set_rank
  walk_at "dv"
  exact ⟨by rw [sizeLine_eq]; decide, FnEnd.here q⟩
theorem part_false {ws : List Str} {d : D} {μ : Mu} {t : Ty} (h : tyD (lk μ d) = some t) (ht : t ≠ .tup) : isPart ws d = false := by
  unfold isPart
  split
  · cases h; exact absurd rfl ht
  · rfl
theorem rd_is_part {n1 n2 n3 : Str} : ∀ ds μ Q E, S_is_part ds μ Q E → t_is_part (dFn μ Q E) (start0 [n1, n2, n3] ds) μ := by
  rintro ds μ Q E ⟨ws, d, rfl, hw, hd, q⟩
  unfold t_is_part
  rcases hd with ⟨ys, rfl, hy⟩ | hd
  · walk_at "dv"
    refine comp_pure (src := none) (fun x => inD x ys) id trivial _ [] (fun x hx K1 K2 k => ?_) (by have := hw.len; simp only [List.length_map, List.length_nil, sizeLine_eq]; omega) ?_
    · obtain ⟨t, ht, rfl⟩ := List.mem_map.mp hx
      walk_at "dv"
      exact ⟨⟨asc_ok (hw.ok t ht), hy⟩, k⟩
    · refine ⟨⟨hy, ?_⟩, FnEnd.here ?_⟩
      · show (([] ++ ((ws.map D.str).filter _).map id).all (D.okn 11)) = true
        rw [List.nil_append, List.map_id, List.all_eq_true]
        intro x hx
        obtain ⟨t, ht, rfl⟩ := List.mem_map.mp (List.mem_filter.mp hx).1
        exact asc_ok (hw.ok t ht)
      · have : isPart ws (.tup ys) = deq μ (.lst ys) (.lst ([] ++ ((ws.map D.str).filter fun x => inD x ys).map id)) := by
          rw [List.nil_append, List.map_id]; rfl
        rw [← this]; exact q
  · obtain ⟨t, h1, h2⟩ := hd μ
    have h3 : t.sub .tup = false := by cases t <;> first | rfl | exact absurd rfl h2
    simp only [dSeq, dIf, dNotT, dTest, dIsi, dVar, start0, List.map_cons, List.cons_append, List.getElem?_cons_succ, List.getElem?_cons_zero, h1, h3, Bool.not_false, cond_true, dRet, dC]
    rw [part_false h1 h2] at q
    exact FnEnd.here q
theorem rd_lis_set {n1 n2 n3 : Str} : ∀ ds μ Q E, S_lis_set ds μ Q E → t_lis_set (dFn μ Q E) (start0 [n1, n2, n3] ds) μ := by
  rintro ds μ Q E ⟨ws, d, rfl, hw, hd, q⟩
  unfold t_lis_set
  rcases hd with ⟨ys, rfl, hy⟩ | hd
  · walk_at "dv"
    refine comp_pure (src := none) (fun x => inD x ys) id trivial _ [] (fun x hx K1 K2 k => ?_) (by have := hw.len; simp only [List.length_map, List.length_nil, sizeLine_eq]; omega) ?_
    · obtain ⟨t, ht, rfl⟩ := List.mem_map.mp hx
      walk_at "dv"
      exact ⟨⟨asc_ok (hw.ok t ht), hy⟩, k⟩
    · refine ⟨⟨hy, ?_⟩, FnEnd.here ?_⟩
      · show (([] ++ ((ws.map D.str).filter _).map id).all (D.okn 11)) = true
        rw [List.nil_append, List.map_id, List.all_eq_true]
        intro x hx
        obtain ⟨t, ht, rfl⟩ := List.mem_map.mp (List.mem_filter.mp hx).1
        exact asc_ok (hw.ok t ht)
      · have : isPart ws (.tup ys) = deq μ (.lst ys) (.lst ([] ++ ((ws.map D.str).filter fun x => inD x ys).map id)) := by
          rw [List.nil_append, List.map_id]; rfl
        rw [← this]; exact q
  · obtain ⟨t, h1, h2⟩ := hd μ
    have h3 : t.sub .tup = false := by cases t <;> first | rfl | exact absurd rfl h2
    simp only [dSeq, dIf, dNotT, dTest, dIsi, dVar, start0, List.map_cons, List.cons_append, List.getElem?_cons_succ, List.getElem?_cons_zero, h1, h3, Bool.not_false, cond_true, dRet, dC]
    rw [part_false h1 h2] at q
    exact FnEnd.here q
theorem rd_is_set {n1 n2 : Str} : ∀ ds μ Q E, S_is_set ds μ Q E → t_is_set (dFn μ Q E) (start0 [n1, n2] ds) μ := by
  rintro ds μ Q E ⟨ws, d, rfl, hw, hd, q⟩
  unfold t_is_set
  walk_at "dv"
  exact ⟨ws, d, rfl, hw, hd, FnEnd.here q⟩
theorem inF_strs (x : Str) (us : List Str) : inF (.str x) (us.map .str) = decide (x ∈ us) := by
  unfold inF
  induction us with
  | nil => simp
  | cons u us ih =>
    rw [List.map_cons, List.any_cons, ih]
    show ((u == x) || _) = _
    by_cases h : x = u
    · subst h; simp
    · have : (u == x) = false := by simp [Ne.symm h]
      rw [this]; simp [h]
theorem flat_strs' (us : List Str) : (us.map D.str).all D.flat = true := by
  rw [List.all_map, List.all_eq_true]; intro x _; rfl
theorem rd_others {n1 n2 n3 : Str} : ∀ ds μ Q E, S_others ds μ Q E → t_others (dFn μ Q E) (start0 [n1, n2, n3] ds) μ := by
  rintro ds μ Q E ⟨ws, us, rfl, hw, q⟩
  unfold t_others
  walk_at "dv"
  refine comp_pure (src := none) (fun x => match x with | .str t => decide (t ∉ us) | _ => false) id trivial _ [] (fun x hx K1 K2 k => ?_) (by have := hw.len; simp only [List.length_map, List.length_nil, sizeLine_eq]; omega) ?_
  · obtain ⟨t, ht, rfl⟩ := List.mem_map.mp hx
    walk_at "dv"
    refine ⟨⟨rfl, flat_strs' us⟩, ?_⟩
    rw [inF_strs]
    rw [show (!decide (t ∈ us)) = decide (t ∉ us) from by by_cases h : t ∈ us <;> simp [h]]
    exact k
  · rw [List.nil_append, List.map_id, List.filter_map]
    exact FnEnd.here q
theorem comp_ext {v vx : Nat} {Γ : Gam} {μ : Mu} {Q : List D → Mu → Prop} {x : Str} {ls : List (List Str)} (hv : v ≠ vx) (hl : v < Γ.length) (gx : Γ[vx]? = some (some (.str x))) (h1 : ls.length ≤ 1000) (h2 : ∀ l ∈ ls, l.length ≤ 100) (q : Q ((ls.map (· ++ [x])).map tupS) μ) :
    dCompL none (cName v) dYes (dBin gAdd (dVar v) (dCall gTup (dCons (dVar vx) dNil))) Γ (ls.map tupS) [] μ Q := by
  refine comp_pure (src := none) (fun _ => true) (fun d => match d with | .tup l => .tup (l ++ [.str x]) | _ => d) trivial _ [] (fun d hd K1 K2 k => ?_) (by simp only [List.length_map, List.length_nil, sizeLine_eq]; omega) ?_
  · obtain ⟨l, h3, rfl⟩ := List.mem_map.mp hd
    have e1 : (Γ.set v (some (tupS l)))[v]? = some (some (tupS l)) := List.getElem?_set_self hl
    have e2 : (Γ.set v (some (tupS l)))[vx]? = some (some (.str x)) := by rw [List.getElem?_set_ne hv]; exact gx
    simp only [cName, dYes, cond_true, dBin, dVar, e1, e2, dCall, dCons, dNil, gTup, gAdd, lk, List.length_cons, List.length_nil]
    refine ⟨by rw [sizeLine_eq]; decide, by have := h2 l h3; rw [List.length_map, sizeLine_eq]; omega, k⟩
  · have : [] ++ ((ls.map tupS).filter fun _ => true).map (fun d => match d with | .tup l => .tup (l ++ [.str x]) | _ => d) = (ls.map (· ++ [x])).map tupS := by
      rw [List.nil_append, List.filter_eq_self.mpr (by intros; rfl), List.map_map, List.map_map]
      apply List.map_congr_left
      intro l _
      simp [tupS]
    rw [this]; exact q
theorem take_get1 {α : Type} {xs : List α} {i : Nat} {x : α} (h : xs[i]? = some x) : xs.take (i + 1) = xs.take i ++ [x] := by rw [List.take_add_one, h]; rfl
theorem subs_small {xs l : List Str} (hx : xs.length ≤ 8) (h : l ∈ subs xs) : l.length ≤ 100 := by have := (subs_sub h).length_le; omega
theorem pow_small {n : Nat} (h : n ≤ 8) : 2 ^ n ≤ 256 := by
  have : (2 : Nat) ^ n ≤ 2 ^ 8 := Nat.pow_le_pow_right (by decide) h
  simpa using this
theorem rd_all_sets {n1 n2 n3 n4 : Str} : ∀ ds μ Q E, S_all_sets ds μ Q E → t_all_sets (dFn μ Q E) (start0 [n1, n2, n3, n4] ds) μ := by
  rintro ds μ Q E ⟨xs, rfl, hx, fz, q⟩
  unfold t_all_sets
  walk_at "dv"
  refine ⟨by rw [sizeLine_eq]; decide, by rw [sizeLine_eq]; decide, ?_⟩
  refine loop_inv (src := none) (fun i Γ μ' => μ' = μ ∧ i ≤ xs.length ∧ ∃ x2 x3, Γ = [some (tupS xs), some (.lst ((subs (xs.take i)).map tupS)), x2, x3]) ⟨rfl, Nat.zero_le _, _, _, rfl⟩ ?_ ?_
  · rintro i d Γ μ' hd ⟨rfl, hi, x2, x3, rfl⟩
    refine ⟨trivial, fun Kn kn => ?_⟩
    rw [List.getElem?_map, Option.map_eq_some_iff] at hd
    obtain ⟨x, hx1, rfl⟩ := hd
    have hi2 : i < xs.length := (List.getElem?_eq_some_iff.mp hx1).1
    have hlen : (xs.take i).length ≤ 8 := by rw [List.length_take]; have := hx.len; omega
    have hp := pow_small hlen
    have hsl := subs_len (xs.take i)
    walk_at "dv"
    refine comp_ext (by decide) (by simp) rfl (by omega) (fun l hl => subs_small hlen hl) ⟨?_, ?_⟩
    · simp only [List.length_map, sizeLine_eq]; omega
    · refine kn _ _ ⟨rfl, by omega, some (.str x), x3, ?_⟩
      rw [take_get1 hx1, subs_snoc, List.map_append]
  · rintro Γ μ' ⟨rfl, hi, x2, x3, rfl⟩
    rw [List.length_map, List.take_length]
    refine ⟨trivial, ?_⟩
    walk_at "dv"
    refine ⟨fun d hd => ?_, srt_rank fun l hl x hx' => hx.ok x ((subs_sub hl).mem hx'), ?_⟩
    · obtain ⟨l, _, rfl⟩ := List.mem_map.mp hd
      exact ⟨_, rfl, rfl, rfl⟩
    · have pu : ∀ ls : List D, (∀ d ∈ ls, ∃ l : List Str, d = tupS l) → D.puL ls = true := fun ls => by
        induction ls with
        | nil => intro _; rfl
        | cons d ls ih =>
          intro h
          obtain ⟨l, rfl⟩ := h d (by simp)
          have : D.puL (l.map D.str) = true := by
            clear ih h
            induction l with
            | nil => rfl
            | cons w ws ih => exact ih
          show (D.puL (l.map D.str) && D.puL ls) = true
          rw [this, ih fun e he => h e (by simp [he])]; rfl
      have hpu : D.puL (setsD xs) = true := pu _ fun d hd => let ⟨l, _, e⟩ := sets_mem hd; ⟨l, e⟩
      cases fz with
      | true => exact .inr ⟨μ', _, rfl, Upd.refl _, .inr (.inr (.inr (.inl ⟨0, setsD xs, by simp, rfl, hpu, q⟩)))⟩
      | false => exact FnEnd.here q
theorem sets_keys (xs : List Str) : sortBy id (((subs xs).map tupS).map key_set_rank) = (setsD xs).map key_set_rank := by
  unfold setsD sortBy
  exact (PySem.W.sort_maps (r := leBy key_set_rank) (s := leBy id) key_set_rank fun _ _ _ _ => rfl).symm
theorem rd_sets {n1 n2 n3 n4 n5 : Str} : ∀ ds μ Q E, S_sets ds μ Q E → t_sets (dFn μ Q E) (start0 [n1, n2, n3, n4, n5] ds) μ := by
  rintro ds μ Q E ⟨xs, rfl, hx, q⟩
  unfold t_sets
  walk_at "dv"
  refine ⟨by rw [sizeLine_eq]; decide, by rw [sizeLine_eq]; decide, ?_⟩
  refine loop_inv (src := none) (fun i Γ μ' => μ' = μ ∧ i ≤ xs.length ∧ ∃ x2 x3 x4, Γ = [some (tupS xs), some (.lst ((subs (xs.take i)).map tupS)), x2, x3, x4]) ⟨rfl, Nat.zero_le _, _, _, _, rfl⟩ ?_ ?_
  · rintro i d Γ μ' hd ⟨rfl, hi, x2, x3, x4, rfl⟩
    refine ⟨trivial, fun Kn kn => ?_⟩
    rw [List.getElem?_map, Option.map_eq_some_iff] at hd
    obtain ⟨x, hx1, rfl⟩ := hd
    have hi2 : i < xs.length := (List.getElem?_eq_some_iff.mp hx1).1
    have hlen : (xs.take i).length ≤ 8 := by rw [List.length_take]; have := hx.len; omega
    have hp := pow_small hlen
    have hsl := subs_len (xs.take i)
    walk_at "dv"
    refine comp_ext (by decide) (by simp) rfl (by omega) (fun l hl => subs_small hlen hl) ⟨?_, ?_⟩
    · simp only [List.length_map, sizeLine_eq]; omega
    · refine kn _ _ ⟨rfl, by omega, some (.str x), x3, x4, ?_⟩
      rw [take_get1 hx1, subs_snoc, List.map_append]
  · rintro Γ μ' ⟨rfl, hi, x2, x3, x4, rfl⟩
    rw [List.length_map, List.take_length]
    refine ⟨trivial, ?_⟩
    have hp := pow_small hx.len
    have hsl := subs_len xs
    walk_at "dv"
    refine comp_pure (src := none) (fun _ => true) key_set_rank trivial _ [] (fun d hd K1 K2 k => ?_) (by simp only [List.length_map, List.length_nil, sizeLine_eq]; omega) ?_
    · obtain ⟨l, _, rfl⟩ := List.mem_map.mp hd
      walk_at "dv"
      exact ⟨by rw [sizeLine_eq]; decide, k⟩
    · rw [List.nil_append, List.filter_eq_self.mpr (by intros; rfl)]
      refine ⟨srt_rank fun l hl x hx' => hx.ok x ((subs_sub hl).mem hx'), ?_⟩
      rw [sets_keys]
      refine comp_pure (src := none) (fun _ => true) (fun d => match d with | .tup [_, y] => y | _ => d) trivial _ [] (fun d hd K1 K2 k => ?_) (by rw [List.length_map, List.length_nil, sets_len, sizeLine_eq]; omega) ?_
      · obtain ⟨e, he, rfl⟩ := List.mem_map.mp hd
        obtain ⟨l, _, rfl⟩ := sets_mem he
        walk_at "dv"
        exact k
      · rw [List.nil_append, List.filter_eq_self.mpr (by intros; rfl), List.map_map]
        have : (setsD xs).map ((fun d => match d with | .tup [_, y] => y | _ => d) ∘ key_set_rank) = setsD xs := by
          refine (List.map_congr_left fun d hd => ?_).trans (List.map_id _)
          obtain ⟨l, _, rfl⟩ := sets_mem hd
          rfl
        rw [this]
        exact FnEnd.here q
end DV

namespace DV
open PySem PySem.Spec PyProof.Rows L2
def S_any : DSp := fun ds μ Q _ => ∃ l c ws, ds = [.ref l, tupS ws] ∧ μ[l]? = some (.orc (c, true)) ∧ 20 ≤ c ∧ ws ≠ [] ∧ Okp 8 ws ∧ ∀ c' d, c' ≤ c → c ≤ c' + 20 → thingOk d → Q d (M μ l c')
def S_law : DSp := fun ds μ Q _ => ∃ ns : List Int, ds = [.scr ns] ∧ ns.length ≤ 63 ∧ μ = [] ∧ ∀ μ', Q (.bl true) μ'
def t_any_5 : DTS := dRet (dBin gIx (dVar 5) (dOp S_draw (dCons (dVar 0) (dCons (dCall gLen (dCons (dVar 5) dNil)) (dNil)))))
def t_any_4 : DTS := dSeq (dAsg (dBin gAdd (dVar 5) (dCall gLst (dCons (dVar 3) (dCons (dJoin (dC (.str "")) (dVar 4)) (dCons (dJoin (dC (.str " ")) (dVar 1)) (dCons (dC .non) (dCons (dC (.bl true)) (dCons (dC (.int 0)) (dCons (dDict true [(dBin gIx (dVar 1) (dC (.int 0)), dC (.int 1))]) (dCons (dCall gTup (dCons (dVar 4) (dNil))) (dCons (dUn gNeg (dC (.int 1))) (dCons (dCall gTup (dCons (dCall (gList true) (dCons (dVar 4) dNil)) (dNil))) (dNil))))))))))))) (dName 5)) t_any_5
def t_any_3 : DTS := dSeq (dAsg (dCall gLst (dCons (dVar 4) (dCons (dCall gTuple (dCons (dVar 3) dNil)) (dCons (dCall (gList true) (dCons (dVar 4) dNil)) (dCons (dRevT (dVar 4)) (dCons (dBin gAdd (dVar 4) (dSlice true (dVar 4) dNoPart (dPart (dC (.int 1))))) (dCons (dBin gAdd (dVar 4) (dCall gTup (dCons (dBin gIx (dVar 2) (dOp S_draw (dCons (dVar 0) (dCons (dCall gLen (dCons (dVar 2) dNil)) (dNil))))) (dNil)))) (dNil)))))))) (dName 5)) t_any_4
def t_any_2 : DTS := dSeq (dAsg (dCall gTuple (dCons (dComp true [7] (dIter (dVar 1)) (cName 7) (dTest (dBin gEq (dOp S_draw (dCons (dVar 0) (dCons (dC (.int 2)) (dNil)))) (dC (.int 1)))) (dVar 7)) dNil)) (dName 4)) t_any_3
def t_any_1 : DTS := dSeq (dAsg (dComp true [6] (dRange1 (dOp S_draw (dCons (dVar 0) (dCons (dC (.int 4)) (dNil))))) (cName 6) (dYes) (dBin gIx (dVar 2) (dOp S_draw (dCons (dVar 0) (dCons (dCall gLen (dCons (dVar 2) dNil)) (dNil)))))) (dName 3)) t_any_2
def t_any : DTS := dSeq (dAsg (dBin gAdd (dCall (gList true) (dCons (dVar 1) dNil)) (dCall gLst (dCons (dC (.str "zz9")) (dCons (dC (.str "")) (dCons (dC (.int 1)) (dCons (dC .non) (dCons (dCall gTup (dNil)) (dCons (dC (.str "A")) (dNil))))))))) (dName 2)) t_any_1
def t_law_12 : DTS := dRet (dAnd (dBin gEq (dOp S_all_sets (dCons (dVar 10) (dNil))) (dOp S_sets (dCons (dVar 10) (dNil)))) (dBin gEq (dOpK S_is_set [1, 0] 0 2 dNil (dCons (dVar 2) (dCons (dVar 10) (dNil)))) (dBin gEq (dVar 10) (dVar 2))))
def t_law_11 : DTS := dSeq (dAsg (dSlice true (dVar 2) dNoPart (dPart (dBin gAdd (dC (.int 1)) (dOp S_draw (dCons (dVar 1) (dCons (dCall gLen (dCons (dVar 2) dNil)) (dNil))))))) (dName 10)) t_law_12
def t_law_10 : DTS := dSeq (dIf (dOrT (dTest (dBin gNe (dOp S_all_sets (dCons (dCall gTup (dNil)) (dNil))) (dCall gLst (dCons (dCall gTup (dNil)) (dNil))))) (dOrT (dTest (dBin (gIsB true) (dOp S_is_set (dCons (dCall gTup (dNil)) (dCons (dCall gTup (dNil)) (dNil)))) (dC (.bl true)))) (dOrT (dTest (dBin gNe (dOp S_others (dCons (dCall gTup (dNil)) (dCons (dCall gTup (dNil)) (dNil)))) (dCall gTup (dNil)))) (dTest (dOp S_is_set (dCons (dCall gTup (dNil)) (dCons (dVar 2) (dNil)))))))) (dRet (dC (.bl false))) (dNext)) t_law_11
def t_law_9 : DTS := dSeq (dFor (dRange1 (dC (.int 12))) (dName 7) (dSeq (dAsg (dOp S_any (dCons (dVar 1) (dCons (dVar 2) (dNil)))) (dName 8)) (dSeq (dAsg (dOp S_is_set (dCons (dVar 2) (dCons (dVar 8) (dNil)))) (dName 9)) (dIf (dOrT (dNotT (dTest (dIsi .bool (dVar 9)))) (dTest (dBin gNe (dVar 9) (dOp S_lis_set (dCons (dVar 2) (dCons (dVar 8) (dNil))))))) (dRet (dC (.bl false))) (dNext))))) t_law_10
def t_law_8 : DTS := dSeq (dFor (dIter (dVar 3)) (dName 5) (dSeq (dAsg (dCall gTuple (dCons (dComp true [11] (dIter (dVar 2)) (cName 11) (dTest (dBin (gIn true) (dVar 11) (dVar 5))) (dVar 11)) dNil)) (dName 6)) (dSeq (dIf (dOrT (dTest (dBin (gIsB true) (dOp S_is_set (dCons (dVar 2) (dCons (dVar 5) (dNil)))) (dC (.bl true)))) (dTest (dBin gNe (dOp S_others (dCons (dVar 2) (dCons (dVar 5) (dNil)))) (dVar 6)))) (dRet (dC (.bl false))) (dNext)) (dIf (dTest (dBin gNe (dOpK S_others [1, 0] 0 2 dNil (dCons (dVar 6) (dCons (dVar 2) (dNil)))) (dVar 5))) (dRet (dC (.bl false))) (dNext))))) t_law_9
def t_law_7 : DTS := dSeq (dIf (dTest (dBin gNe (dOpK S_all_sets [0] 0 1 dNil (dCons (dVar 2) (dNil))) (dVar 3))) (dRet (dC (.bl false))) (dNext)) t_law_8
def t_law_6 : DTS := dSeq (dDrop (dCellM cAppend (dVar 4) (dCons (dCall gTup (dCons (dC (.str "zz9")) (dNil))) dNil))) t_law_7
def t_law_5 : DTS := dSeq (dDrop (dPop0 (dVar 4))) t_law_6
def t_law_4 : DTS := dSeq (dIf (dOrT (dNotT (dTest (dIsi .list (dVar 4)))) (dTest (dBin gNe (dVar 4) (dVar 3)))) (dRet (dC (.bl false))) (dNext)) t_law_5
def t_law_3 : DTS := dSeq (dAsg (dOp S_all_sets (dCons (dVar 2) (dNil))) (dName 4)) t_law_4
def t_law_2 : DTS := dSeq (dAsg (dOp S_sets (dCons (dVar 2) (dNil))) (dName 3)) t_law_3
def t_law_1 : DTS := dSeq (dAsg (dCall gTuple (dCons (dCall (gSorted true) (dCons (dOp S_names (dCons (dVar 1) (dCons (dBin gAdd (dC (.int 1)) (dOp S_draw (dCons (dVar 1) (dCons (dC (.int 6)) (dNil))))) (dNil)))) dNil)) dNil)) (dName 2)) t_law_2
def t_law : DTS := dSeq (dAsg (dOp S_start (dCons (dVar 0) (dNil))) (dName 1)) t_law_1
theorem atI_mem {α : Type} {xs : List α} {i : Int} (h0 : 0 ≤ i) (h1 : i < xs.length) : ∃ d, atI xs i = some d ∧ d ∈ xs := by
  have h : i.toNat < xs.length := by omega
  exact ⟨xs[i.toNat], atI_nat' h0 (List.getElem?_eq_getElem h), List.getElem_mem h⟩
theorem any_45 {μ : Mu} {l c c' : Nat} {ws us : List Str} {row menu : List D} {m5 : D} {Q : D → Mu → Prop} {E : Exn → Mu → Prop} (hl : l < μ.length) (hc1 : c' ≤ c) (hc2 : c ≤ c' + 16) (hc3 : 2 ≤ c') (hne : ws ≠ []) (hw : Okp 8 ws) (hu : ∀ u ∈ us, u ∈ ws) (hul : us.length ≤ 8)
    (hr : row.all (D.okn 11) = true) (hm5 : thingOk m5) (q : ∀ c' d, c' ≤ c → c ≤ c' + 20 → thingOk d → Q d (M μ l c')) {x6 x7 : Option D} :
    t_any_4 (dFn μ Q E) [some (.ref l), some (tupS ws), some (.lst menu), some (.lst row), some (tupS us), some (.lst [tupS us, .tup row, .lst (us.map .str), .tup (us.map D.str).reverse, .tup (us.map D.str ++ cutL (us.map D.str) none (some 1)), m5]), x6, x7] (M μ l c') := by
  unfold t_any_4
  walk_at "dv"
  obtain ⟨w0, ws', rfl⟩ : ∃ a b, ws = a :: b := by cases ws with | nil => exact absurd rfl hne | cons a b => exact ⟨a, b, rfl⟩
  rw [strD_map, strD_map]
  have su : ∀ (zs : List Str), (∀ u ∈ zs, u.length ≤ 100) → zs.length ≤ 8 → (zs.map (·.length)).sum ≤ 800 := fun zs h h8 => by
    have : (zs.map (·.length)).sum ≤ 100 * zs.length := by
      clear h8
      induction zs with
      | nil => simp
      | cons z zs ih =>
        have := h z (by simp)
        have := ih fun u hu => h u (by simp [hu])
        simp only [List.map_cons, List.sum_cons, List.length_cons]
        omega
    omega
  have z0 : (Str.ofString "").length = 0 := by decide +kernel
  have z1 : (Str.ofString " ").length = 1 := by decide +kernel
  have su1 := su us (fun u h => hw.sl u (hu u h)) hul
  have su2 := su (w0 :: ws') hw.sl hw.len
  have hwl := hw.len
  refine ⟨⟨_, rfl⟩, by rw [z0]; omega, ⟨_, rfl⟩, by rw [z1]; omega, ?_⟩
  rw [List.map_cons, atI_zero]
  dsimp only
  refine ⟨by simp, by rw [sizeLine_eq]; decide, by rw [sizeLine_eq]; decide, by rw [sizeLine_eq]; decide, by rw [sizeLine_eq]; decide, ?_⟩
  unfold t_any_5
  walk_at "dv"
  refine draw_M hl (by omega) (by decide) (by decide) fun i i0 i1 => ?_
  dsimp only
  have ou : ∀ k, (us.map D.str).all (D.okn k) = true := okn_strs fun u h => hw.ok u (hu u h)
  have aux : ∀ ts : List D, (∀ d ∈ ts, thingOk d) → i < ts.length → (match atI ts i with | some d => (dFn μ Q E).rt d (M μ l (c' - 1)) | none => False) := fun ts ht h => by
    obtain ⟨d, e, hd⟩ := atI_mem i0 h
    rw [e]
    exact FnEnd.here (q _ d (by omega) (by omega) (ht d hd))
  refine aux _ (fun d hd => ?_) i1
  simp only [List.mem_cons, List.not_mem_nil, or_false] at hd
  rcases hd with rfl | rfl | rfl | rfl | rfl | rfl | rfl | rfl | rfl | rfl | rfl | rfl | rfl | rfl | rfl | rfl
  · exact .inl ⟨_, rfl, ou 11⟩
  · exact .inl ⟨_, rfl, hr⟩
  · exact .inr fun _ => ⟨_, rfl, by decide⟩
  · exact .inl ⟨_, rfl, by rw [List.all_reverse]; exact ou 11⟩
  · refine .inl ⟨_, rfl, ?_⟩
    rw [List.all_append, ou 11, cut_to _ (by decide), Bool.true_and, List.all_eq_true]
    intro x hx
    exact List.all_eq_true.mp (ou 11) x (List.mem_of_mem_take hx)
  · exact hm5
  · exact .inr fun _ => ⟨_, rfl, by decide⟩
  · exact .inr fun _ => ⟨_, rfl, by decide⟩
  · exact .inr fun _ => ⟨_, rfl, by decide⟩
  · exact .inr fun _ => ⟨_, rfl, by decide⟩
  · exact .inr fun _ => ⟨_, rfl, by decide⟩
  · exact .inr fun _ => ⟨_, rfl, by decide⟩
  · exact .inr fun _ => ⟨_, rfl, by decide⟩
  · exact .inl ⟨_, rfl, by show (D.okn 11 (tupS us) && true) = true; rw [Bool.and_true]; exact ou 10⟩
  · exact .inr fun _ => ⟨_, rfl, by decide⟩
  · exact .inl ⟨_, rfl, by show (D.okn 11 (.lst (us.map D.str)) && true) = true; rw [Bool.and_true]; exact ou 10⟩
theorem rd_any {n1 n2 n3 n4 n5 n6 n7 n8 : Str} : ∀ ds μ Q E, S_any ds μ Q E → t_any (dFn μ Q E) (start0 [n1, n2, n3, n4, n5, n6, n7, n8] ds) μ := by
  rintro ds μ Q E ⟨l, c, ws, rfl, hc, hc2, hne, hw, q⟩
  have hl := orc_lt hc
  have e0 : t_any (dFn μ Q E) (start0 [n1, n2, n3, n4, n5, n6, n7, n8] [.ref l, tupS ws]) (M μ l c) → t_any (dFn μ Q E) (start0 [n1, n2, n3, n4, n5, n6, n7, n8] [.ref l, tupS ws]) μ := fun h => by rw [M_id hc] at h; exact h
  refine e0 ?_
  have hwl := hw.len
  unfold t_any
  walk_at "dv"
  refine ⟨by rw [sizeLine_eq]; decide, by rw [sizeLine_eq]; decide, by rw [List.length_map, sizeLine_eq]; omega, ?_⟩
  have hmn : ∀ d ∈ List.map D.str ws ++ [D.str (Str.ofString "zz9"), D.str (Str.ofString ""), D.int 1, D.non, D.tup [], D.str (Str.ofString "A")], D.okn 11 d = true := fun d hd => by
    rcases List.mem_append.mp hd with h | h
    · exact List.all_eq_true.mp (okn_strs hw.ok 11) d h
    · simp only [List.mem_cons, List.not_mem_nil, or_false] at h
      rcases h with rfl | rfl | rfl | rfl | rfl | rfl
      · exact asc_ok (asc_dec (by decide +kernel))
      · exact asc_ok (asc_dec (by decide +kernel))
      · rfl
      · rfl
      · rfl
      · exact asc_ok (asc_dec (by decide +kernel))
  have hml : (List.map D.str ws ++ [D.str (Str.ofString "zz9"), D.str (Str.ofString ""), D.int 1, D.non, D.tup [], D.str (Str.ofString "A")]).length = ws.length + 6 := by simp
  generalize List.map D.str ws ++ [D.str (Str.ofString "zz9"), D.str (Str.ofString ""), D.int 1, D.non, D.tup [], D.str (Str.ofString "A")] = menu at hmn hml ⊢
  unfold t_any_1
  walk_at "dv"
  refine draw_M hl (by omega) (by decide) (by decide) fun j j0 j1 => ?_
  dsimp only
  refine ⟨by omega, comp_inv (fun i acc μ' => acc.all (D.okn 11) = true ∧ i ≤ j.toNat ∧ μ' = M μ l (c - 1 - i)) ⟨rfl, by omega, rfl⟩ (by rw [irng_len, sizeLine_eq]; omega) ?_ ?_⟩
  · rintro i d acc μ' hd ⟨h1, h2, rfl⟩
    obtain ⟨hi, rfl⟩ := irng_get hd
    refine ⟨trivial, fun K1 K2 k1 k2 => ?_⟩
    walk_at "dv"
    refine draw_M hl (by omega) (by omega) (by omega) fun t t0 t1 => ?_
    obtain ⟨d, e, hd⟩ := atI_mem t0 t1
    dsimp only
    rw [e]
    exact k1 _ _ ⟨by rw [List.all_append, h1]; simp [hmn d hd], by omega, by congr 1⟩
  rintro row μ' ⟨h1, h2, rfl⟩
  rw [irng_len]
  refine ⟨trivial, ?_⟩
  unfold t_any_2
  walk_at "dv"
  refine comp_inv (fun i acc μ' => ∃ us : List Str, acc = us.map .str ∧ (∀ u ∈ us, u ∈ ws) ∧ us.length ≤ i ∧ i ≤ ws.length ∧ μ' = M μ l (c - 1 - j.toNat - i)) ⟨[], rfl, by simp, by simp, by omega, rfl⟩ (by rw [List.length_map, sizeLine_eq]; omega) ?_ ?_
  · rintro i d acc μ' hd ⟨us, rfl, g1, g2, g3, rfl⟩
    rw [List.getElem?_map, Option.map_eq_some_iff] at hd
    obtain ⟨x, hx1, rfl⟩ := hd
    have hi : i < ws.length := (List.getElem?_eq_some_iff.mp hx1).1
    refine ⟨trivial, fun K1 K2 k1 k2 => ?_⟩
    walk_at "dv"
    refine draw_M hl (by omega) (by decide) (by decide) fun t t0 t1 => ?_
    refine ⟨deqOk_int _ _ _, ?_⟩
    rw [deq_int]
    by_cases ht : t = 1
    · simp only [ht, decide_true, cond_true]
      refine k1 _ _ ⟨us ++ [x], by simp, fun u hu => ?_, by simp; omega, by omega, by congr 1⟩
      rcases List.mem_append.mp hu with z | z
      · exact g1 u z
      · rw [List.mem_singleton.mp z]; exact List.mem_of_getElem? hx1
    · simp only [ht, decide_false, cond_false]
      exact k2 _ ⟨us, rfl, g1, by omega, by omega, by congr 1⟩
  rintro acc μ' ⟨us, rfl, g1, g2, g3, rfl⟩
  rw [List.length_map] at g2 ⊢
  refine ⟨trivial, ?_⟩
  unfold t_any_3
  walk_at "dv"
  have hcl : (cutL (us.map D.str) none (some 1)).length ≤ us.length := by rw [cut_to _ (by decide), List.length_take, List.length_map]; omega
  refine ⟨by rw [List.length_map, sizeLine_eq]; omega, draw_M hl (by omega) (by omega) (by omega) fun t t0 t1 => ?_⟩
  obtain ⟨d, e, hd⟩ := atI_mem t0 t1
  dsimp only
  rw [e]
  dsimp only
  refine ⟨by rw [sizeLine_eq]; decide, by rw [List.length_map, sizeLine_eq]; omega, by rw [sizeLine_eq]; decide, ?_⟩
  refine any_45 hl (by omega) (by omega) (by omega) hne hw g1 (by omega) h1 (.inl ⟨_, rfl, ?_⟩) q
  rw [List.all_append, okn_strs (fun u h => hw.ok u (g1 u h)) 11]
  simp [hmn d hd]
theorem deq_refl {μ : Mu} {x y : D} (h : lk μ x = lk μ y) (ho : D.okn 12 (lk μ y) = true) : deqOk μ x y ∧ deq μ x y = true := by
  unfold deqOk deq
  rw [h]
  exact ⟨⟨ho, ho⟩, SeqAt.eqv_refl _ (okn_lay 12 _ ho).1⟩
theorem okn_sets {P : List Str} (h : ∀ x ∈ P, asc x) : D.okn 12 (.lst (setsD P)) = true := by
  show (setsD P).all (D.okn 11) = true
  rw [List.all_eq_true]
  intro d hd
  obtain ⟨l, hl, rfl⟩ := sets_mem hd
  exact okn_strs (fun x hx => h x ((subs_sub hl).mem hx)) 10
theorem deq_sets {P : List Str} (μ : Mu) (h : ∀ x ∈ P, asc x) : deqOk μ (.lst (setsD P)) (.lst (setsD P)) ∧ deq μ (.lst (setsD P)) (.lst (setsD P)) = true := deq_refl (x := .lst (setsD P)) (y := .lst (setsD P)) rfl (okn_sets h)
theorem inD_strs (x : Str) (us : List Str) : inD (.str x) (us.map .str) = decide (x ∈ us) := by
  unfold inD
  induction us with
  | nil => simp
  | cons u us ih =>
    rw [List.map_cons, List.any_cons, ih]
    show (PyData.eqv (.str u) (.str x) || _) = _
    simp only [PyData.eqv]
    by_cases h : x = u
    · subst h; simp
    · have : (u == x) = false := by simp [Ne.symm h]
      rw [this]; simp [h]
theorem part_strs (ws l : List Str) : isPart ws (tupS l) = decide (l = ws.filter fun x => decide (x ∈ l)) := by
  show PyData.eqv (.list ((l.map D.str).map (D.py 11))) (.list (((ws.map D.str).filter fun x => inD x (l.map D.str)).map (D.py 11))) = _
  have e : (ws.map D.str).filter (fun x => inD x (l.map D.str)) = (ws.filter fun x => decide (x ∈ l)).map D.str := by
    rw [List.filter_map]
    congr 1
    apply List.filter_congr
    intro x _
    exact inD_strs x l
  rw [e]
  exact eqv_strs 11 11 l _
theorem filter_sub : ∀ {P l : List Str}, P.Nodup → l.Sublist P → (P.filter fun x => decide (x ∈ l)) = l := fun {P l} nd h => by
  induction h with
  | slnil => rfl
  | @cons l P a h ih =>
    have n := List.nodup_cons.mp nd
    have ha : a ∉ l := fun z => n.1 (h.mem z)
    rw [List.filter_cons_of_neg (by simpa using ha)]
    exact ih n.2
  | @cons_cons l P a h ih =>
    have n := List.nodup_cons.mp nd
    rw [List.filter_cons_of_pos (by simp)]
    congr 1
    refine Eq.trans (List.filter_congr fun x hx => ?_) (ih n.2)
    have : x ≠ a := fun z => n.1 (z ▸ hx)
    simp [this]
theorem filter_not {P l : List Str} (nd : P.Nodup) (h : l.Sublist P) : (P.filter fun x => decide (x ∉ P.filter fun x => decide (x ∉ l))) = l := by
  refine Eq.trans (List.filter_congr fun x hx => ?_) (filter_sub nd h)
  simp [hx]
theorem sets_nil : setsD [] = [tupS []] := by
  have := sets_perm []
  exact List.perm_singleton.mp this
theorem law_12 {P F : List Str} {Γ : Gam} {μ : Mu} {Q : D → Mu → Prop} {E : Exn → Mu → Prop} (g2 : Γ[2]? = some (some (tupS P))) (g10 : Γ[10]? = some (some (tupS F))) (hp : Okp 8 P) (hf : Okp 8 F) (hs : F.Sublist P) (hn : P.Nodup) (q : ∀ μ', Q (.bl true) μ') : t_law_12 (dFn [] Q E) Γ μ := by
  unfold t_law_12
  simp only [dRet, dAnd, dBin, dOp, dCons, dVar, g2, g10, dNil]
  refine ⟨F, rfl, hf, true, F, rfl, hf, (deq_sets _ hf.ok).1, ?_⟩
  dsimp only
  rw [(deq_sets _ hf.ok).2]
  simp only [cond_true, dOpK, dNil, dCons, dVar, g2, g10]
  refine ⟨rfl, rfl, F, tupS P, rfl, hf, .inl ⟨_, rfl, okn_strs hp.ok 11⟩, (deq_tupS hf.ok hp.ok).1, (deq_bl _ _ _).1, ?_⟩
  rw [(deq_tupS hf.ok hp.ok).2, (deq_bl _ _ _).2, part_strs]
  have : (F.filter fun x => decide (x ∈ P)) = F := List.filter_eq_self.mpr fun x hx => by simpa using hs.mem hx
  rw [this]
  have : (decide (P = F) == decide (F = P)) = true := by by_cases h : F = P <;> simp [h, Ne.symm, eq_comm]
  rw [this]
  exact FnEnd.here (q _)
theorem law_10 {P : List Str} {Γ : Gam} {c : Nat} {loc : Mu} {Q : D → Mu → Prop} {E : Exn → Mu → Prop} (g1 : Γ[1]? = some (some (.ref 0))) (g2 : Γ[2]? = some (some (tupS P))) (hgl : 10 < Γ.length) (hc : 5 ≤ c) (hp : Okp 8 P) (hne : P ≠ []) (hn : P.Nodup) (q : ∀ μ', Q (.bl true) μ') : t_law_10 (dFn [] Q E) Γ (M (Cell.gone :: loc) 0 c) := by
  unfold t_law_10
  have o0 : Okp 8 ([] : List Str) := ⟨by simp, by simp, by simp⟩
  simp only [dSeq, dIf, dOrT, dTest, dBin, dOp, dCons, dVar, g1, g2, dNil, dCall, gTup, gLst, gNe, List.length_nil, List.length_cons]
  refine ⟨by decide, [], rfl, o0, true, by decide, by decide, ?_⟩
  rw [sets_nil]
  refine ⟨(deq_refl (x := .lst [tupS []]) (y := .lst [tupS []]) rfl rfl).1, ?_⟩
  rw [show deq (M (Cell.gone :: loc) 0 c) (.lst [tupS []]) (.lst [.tup []]) = true from (deq_refl (x := .lst [tupS []]) (y := .lst [tupS []]) rfl rfl).2]
  simp only [Bool.not_true, cond_false]
  refine ⟨by decide, by decide, [], tupS [], rfl, o0, .inl ⟨_, rfl, rfl⟩, ?_⟩
  rw [part_strs]
  simp only [dC, gIsB, List.filter_nil, decide_true, if_true, Bool.not_true, cond_false]
  refine ⟨by decide, by decide, [], [], rfl, o0, by decide, ?_⟩
  rw [List.filter_nil]
  refine ⟨(deq_tupS (xs := []) (ys := []) (by simp) (by simp)).1, ?_⟩
  rw [show deq (M (Cell.gone :: loc) 0 c) (tupS []) (.tup []) = true from (deq_tupS (xs := []) (ys := []) (by simp) (by simp)).2]
  simp only [Bool.not_true, cond_false]
  refine ⟨by decide, [], tupS P, rfl, o0, .inl ⟨_, rfl, okn_strs hp.ok 11⟩, ?_⟩
  rw [part_strs, List.filter_nil]
  simp only [hne, decide_false, cond_false, dNext]
  unfold t_law_11
  simp only [dSeq, dAsg, dSlice, dVar, g1, g2, dNoPart, dPart, dBin, dC, dOp, dCons, dNil, dCall, gLen, lk, List.length_map]
  have hpl : 0 < P.length := List.length_pos_iff.mpr hne
  have h8 := hp.len
  refine draw_M (by simp) (by omega) (by omega) (by omega) fun i i0 i1 => ?_
  dsimp only [gAdd, lk]
  rw [cut_to _ (by omega), ← List.map_take]
  refine law_12 (P := P) (F := P.take (1 + i).toNat) ?_ ?_ hp ⟨?_, fun x hx => hp.ok x (List.mem_of_mem_take hx), fun x hx => hp.sl x (List.mem_of_mem_take hx)⟩ (List.take_sublist _ _) hn q
  · rw [List.getElem?_set_ne (by decide)]; exact g2
  · exact List.getElem?_set_self hgl
  · rw [List.length_take]; omega
theorem law_9 {P : List Str} {c : Nat} {loc : Mu} {Q : D → Mu → Prop} {E : Exn → Mu → Prop} {a0 a3 a4 a5 a6 a7 a8 a9 a10 a11 : Option D} (hc : 1000 ≤ c) (hp : Okp 8 P) (hne : P ≠ []) (hn : P.Nodup) (q : ∀ μ', Q (.bl true) μ') :
    t_law_9 (dFn [] Q E) [a0, some (.ref 0), some (tupS P), a3, a4, a5, a6, a7, a8, a9, a10, a11] (M (Cell.gone :: loc) 0 c) := by
  unfold t_law_9
  walk_at "dv"
  refine ⟨by decide, loop_inv (src := none) (fun i Γ μ' => ∃ c' a7 a8 a9, Γ = [a0, some (.ref 0), some (tupS P), a3, a4, a5, a6, a7, a8, a9, a10, a11] ∧ μ' = M (Cell.gone :: loc) 0 c' ∧ c ≤ c' + 20 * i ∧ i ≤ 12) ⟨c, _, _, _, rfl, rfl, by omega, by omega⟩ ?_ ?_⟩
  · rintro i d Γ μ' hd ⟨c', a7, a8, a9, rfl, rfl, h1, h2⟩
    obtain ⟨hi, rfl⟩ := irng_get hd
    have hi2 : i < 12 := hi
    refine ⟨trivial, fun Kn kn => ?_⟩
    walk_at "dv"
    refine ⟨0, c', P, rfl, M_get (by simp), by omega, hne, hp, fun c2 d h3 h4 hd => ?_⟩
    rw [show M (M (Cell.gone :: loc) 0 c') 0 c2 = M (Cell.gone :: loc) 0 c2 from M_set]
    refine ⟨P, d, rfl, hp, hd, ?_⟩
    refine ⟨P, d, rfl, hp, hd, (deq_bl _ _ _).1, ?_⟩
    rw [(deq_bl _ _ _).2]
    simp only [beq_self_eq_true, Bool.not_true, cond_false]
    exact kn _ _ ⟨c2, _, _, _, rfl, rfl, by omega, by omega⟩
  · rintro Γ μ' ⟨c', a7, a8, a9, rfl, rfl, h1, h2⟩
    refine ⟨trivial, ?_⟩
    exact law_10 rfl rfl (by simp) (by omega) hp hne hn q
theorem law_8 {P : List Str} {c : Nat} {loc : Mu} {Q : D → Mu → Prop} {E : Exn → Mu → Prop} {a0 a4 a5 a6 a7 a8 a9 a10 a11 : Option D} (hc : 1000 ≤ c) (hp : Okp 8 P) (hne : P ≠ []) (hn : P.Nodup) (q : ∀ μ', Q (.bl true) μ') :
    t_law_8 (dFn [] Q E) [a0, some (.ref 0), some (tupS P), some (.lst (setsD P)), a4, a5, a6, a7, a8, a9, a10, a11] (M (Cell.gone :: loc) 0 c) := by
  unfold t_law_8
  walk_at "dv"
  refine loop_inv (src := none) (fun i Γ μ' => ∃ a5 a6, Γ = [a0, some (.ref 0), some (tupS P), some (.lst (setsD P)), a4, a5, a6, a7, a8, a9, a10, a11] ∧ μ' = M (Cell.gone :: loc) 0 c) ⟨_, _, rfl, rfl⟩ ?_ ?_
  · rintro i d Γ μ' hd ⟨a5, a6, rfl, rfl⟩
    obtain ⟨l, hl, rfl⟩ := sets_mem (List.mem_of_getElem? hd)
    have hs := subs_sub hl
    have hla : ∀ x ∈ l, asc x := fun x hx => hp.ok x (hs.mem hx)
    refine ⟨trivial, fun Kn kn => ?_⟩
    have h8 := hp.len
    walk_at "dv"
    refine comp_pure (src := none) (fun x => match x with | .str t => decide (t ∉ l) | _ => false) id trivial _ [] (fun x hx K1 K2 k => ?_) (by simp only [List.length_map, List.length_nil, sizeLine_eq]; omega) ?_
    · obtain ⟨t, ht, rfl⟩ := List.mem_map.mp hx
      walk_at "dv"
      refine ⟨⟨rfl, flat_strs' l⟩, ?_⟩
      rw [inF_strs]
      rw [show (!decide (t ∈ l)) = decide (t ∉ l) from by by_cases h : t ∈ l <;> simp [h]]
      exact k
    · have hla2 : ∀ x ∈ P.filter fun x => decide (x ∉ l), asc x := fun x hx => hp.ok x (List.mem_filter.mp hx).1
      rw [List.nil_append, List.map_id, List.filter_map]
      refine ⟨P, tupS l, rfl, hp, .inl ⟨_, rfl, okn_strs hla 11⟩, ?_⟩
      rw [part_strs, filter_sub hn hs]
      simp only [decide_true, if_true, Bool.not_true, cond_false]
      refine ⟨P, l, rfl, hp, (deq_tupS hla2 hla2).1, ?_⟩
      rw [show deq (M (Cell.gone :: loc) 0 c) (tupS (P.filter fun x => decide (x ∉ l))) (.tup (List.map D.str (List.filter ((fun x => match x with | .str t => decide (t ∉ l) | _ => false) ∘ D.str) P))) = true from by
        have := (deq_tupS (μ := M (Cell.gone :: loc) 0 c) hla2 hla2).2
        simp only [decide_true] at this
        exact this]
      simp only [Bool.not_true, cond_false]
      refine ⟨trivial, trivial, P, _, rfl, hp, ?_⟩
      rw [show (P.filter fun x => decide (x ∉ List.filter ((fun x => match x with | .str t => decide (t ∉ l) | _ => false) ∘ D.str) P)) = l from filter_not hn hs]
      refine ⟨(deq_tupS hla hla).1, ?_⟩
      rw [(deq_tupS hla hla).2]
      simp only [decide_true, Bool.not_true, cond_false]
      exact kn _ _ ⟨_, _, rfl, rfl⟩
  · rintro Γ μ' ⟨a5, a6, rfl, rfl⟩
    exact ⟨trivial, law_9 hc hp hne hn q⟩
theorem rd_law {n1 n2 n3 n4 n5 n6 n7 n8 n9 n10 n11 n12 : Str} : ∀ ds μ Q E, S_law ds μ Q E → t_law (dFn μ Q E) (start0 [n1, n2, n3, n4, n5, n6, n7, n8, n9, n10, n11, n12] ds) μ := by
  rintro ds μ Q E ⟨ns, rfl, hl, rfl, q⟩
  unfold t_law
  walk_at "dv"
  refine ⟨ns, rfl, hl, by simp, ?_⟩
  unfold t_law_1
  walk_at "dv"
  show S_draw [.ref 0, .int 6] (M [Cell.gone] 0 1099511627776) _ _
  refine draw_M (by simp) (by decide) (by decide) (by decide) fun i i0 i1 => ?_
  dsimp only
  refine ⟨0, _, 1 + i, rfl, M_get (by simp), by decide, by omega, by omega, fun c' ws h1 h2 hw => ?_⟩
  rw [show (M [Cell.gone] 0 (1099511627776 - 1)).set 0 (.orc (c', true)) = M [Cell.gone] 0 c' from M_set]
  have hv : ∀ x ∈ ws, asc x ∧ x.length ≤ 6 ∧ 1 ≤ x.length := fun x hx => valid_asc (hw.ok x hx)
  refine ⟨srt_strs fun x hx => (hv x hx).1, ?_⟩
  rw [sort_strs]
  have hpm := sortS_perm ws
  have hp : Okp 8 (sortS ws) := ⟨by rw [hpm.length_eq, hw.len]; omega, fun x hx => (hv x (hpm.mem_iff.mp hx)).1, fun x hx => by have := (hv x (hpm.mem_iff.mp hx)).2.1; omega⟩
  have hn : (sortS ws).Nodup := hpm.nodup_iff.mpr hw.nd
  have hne : sortS ws ≠ [] := fun z => by
    have := hpm.length_eq
    rw [z, hw.len] at this
    simp at this
    omega
  generalize sortS ws = P at hp hn hne ⊢
  unfold t_law_2
  walk_at "dv"
  refine ⟨P, rfl, hp, ?_⟩
  unfold t_law_3
  walk_at "dv"
  refine ⟨P, rfl, hp, false, ?_⟩
  show t_law_4 (dFn [] Q E) [some (.scr ns), some (.ref 0), some (tupS P), some (.lst (setsD P)), some (.ref 1), none, none, none, none, none, none, none] (M [Cell.gone, .lst (setsD P)] 0 c')
  unfold t_law_4
  have e1 : (M [Cell.gone, .lst (setsD P)] 0 c')[1]? = some (.lst (setsD P)) := rfl
  have lk1 : lk (M [Cell.gone, .lst (setsD P)] 0 c') (.ref 1) = .lst (setsD P) := lk_cell e1
  have dq := deq_refl (μ := M [Cell.gone, .lst (setsD P)] 0 c') (x := .ref 1) (y := .lst (setsD P)) lk1 (okn_sets hp.ok)
  simp only [dSeq, dIf, dOrT, dNotT, dTest, dIsi, dVar, List.getElem?_cons_succ, List.getElem?_cons_zero, lk1, tyD]
  simp only [show Ty.sub .list .list = true from rfl, Bool.not_true, cond_false, dBin, dVar, gNe, List.getElem?_cons_succ, List.getElem?_cons_zero]
  refine ⟨dq.1, ?_⟩
  rw [dq.2]
  simp only [Bool.not_true, cond_false, dNext]
  have hsl : 0 < (setsD P).length := by rw [sets_len]; exact Nat.pos_of_ne_zero (by simp)
  obtain ⟨y, hy⟩ : ∃ y, (setsD P)[(setsD P).length - 1]? = some y := ⟨_, List.getElem?_eq_getElem (by omega)⟩
  unfold t_law_5
  simp only [dSeq, dDrop, dPop0, dVar, List.getElem?_cons_succ, List.getElem?_cons_zero, e1, hy]
  show t_law_6 (dFn [] Q E) _ (M [Cell.gone, .lst (setsD P).dropLast] 0 c')
  unfold t_law_6
  have e2 : (M [Cell.gone, .lst (setsD P).dropLast] 0 c')[1]? = some (.lst (setsD P).dropLast) := rfl
  have h8 := pow_small hp.len
  have ap : ∀ d, cAppend (setsD P).dropLast [d] = some (.non, (setsD P).dropLast ++ [d]) := fun d => by
    unfold cAppend
    dsimp only
    rw [if_pos (by rw [List.length_dropLast, sets_len, sizeLine_eq]; omega)]
  simp only [dSeq, dDrop, dCellM, dCall, gTup, dC, dCons, dNil, dVar, List.getElem?_cons_succ, List.getElem?_cons_zero, e2, ap, List.length_cons, List.length_nil]
  refine ⟨by rw [sizeLine_eq]; decide, ?_⟩
  show t_law_7 (dFn [] Q E) _ (M [Cell.gone, .lst ((setsD P).dropLast ++ [.tup [.str (Str.ofString "zz9")]])] 0 c')
  unfold t_law_7
  walk_at "dv"
  refine ⟨trivial, trivial, P, rfl, hp, true, ?_⟩
  refine ⟨(deq_sets _ hp.ok).1, ?_⟩
  rw [(deq_sets _ hp.ok).2]
  simp only [Bool.not_true, cond_false]
  exact law_8 (by omega) hp hne hn q
end DV

namespace K20
open PySem PySem.Spec PyProof.Rows L2 DV
def top (i : Nat) : Stmt := PySem.Challenge.pw_twochoosers_k20_sets.main.body.getD i (.Pass ⟨0, 0, 0, 0⟩)
abbrev s_is_part : Stmt := top 1
abbrev s_set_rank : Stmt := top 3
abbrev s_all_sets : Stmt := top 4
abbrev s_is_set : Stmt := top 5
abbrev s_others : Stmt := top 6
abbrev s_start : Stmt := top 8
abbrev s_draw : Stmt := top 9
abbrev s_names : Stmt := top 10
abbrev s_sets : Stmt := top 11
abbrev s_any : Stmt := top 12
abbrev s_lis_set : Stmt := top 13
abbrev s_law : Stmt := top 14
structure Txt (mg : Str → Option Value) : Prop where
  m_len : mg "len" = none
  m_abs : mg "abs" = none
  m_int : mg "int" = none
  m_list : mg "list" = none
  m_tuple : mg "tuple" = none
  m_range : mg "range" = none
  m_isinstance : mg "isinstance" = none
  m_bool : mg "bool" = none
  m_str : mg "str" = none
  m_sorted : mg "sorted" = none
section
variable {P : Program} {w : World} {K : PySem.W.Frag} {mg : Str → Option Value} {base : Heap}
theorem sc_is_part : FnScope ["names", "value", "name"] ["names", "value"] (defScope s_is_part) := ⟨rfl, rfl, rfl, by decide +kernel, rfl, by decide +kernel, by decide +kernel⟩
theorem has_is_part (T : Txt mg)  {f : Addr} {fd : FuncData} (F : Fun K "is_part" "is_part" s_is_part f fd) (m : mg "is_part" = some (.ref f)) (b : Binds K fd ["names", "value"] []) (kb : (fun _ => True) fd) :
    Has P w K mg base "is_part" 1 ["names", "value"] S_is_part (fun _ => True) := by
  refine ⟨f, fd, m, F.kp, b, kb, fun_deep (T := t_is_part) (k := 0) F sc_is_part ?_ (fun cdv A outer s H E hr => ?_) rd_is_part⟩
  · intro ds μ Q E h; obtain ⟨_, _, rfl, _⟩ := h; rfl
  · have tk := takes_of (X := cxOf (L2.CX P w) P w K mg base ["names", "value", "name"] "is_part" (defScope s_is_part) f cdv A outer s H E) rfl rfl rfl rfl
    have hp := passes_of (X := cxOf (L2.CX P w) P w K mg base ["names", "value", "name"] "is_part" (defScope s_is_part) f cdv A outer s H E) rfl
    exact dss_cons (ds_if (dt_not (dt_val (de_isi .tup (by decide) rfl T.m_isinstance (de_var (pv 1)) rfl T.m_tuple (by decide +kernel)))) (dss_one (ds_ret (de_bl pe_bl))) (dss_nil))
      (dss_one (ds_ret (de_eq hr.units (de_list true rfl T.m_list (de_var (pv 1))) (de_lc (fz := true) (own := [("name", 2)]) rfl sc_is_part.nd (di_any (de_var (pv 0))) (blkOk_by (N := ["names", "value", "name"]) (sc := defScope s_is_part) (own := [("name", 2)]) (by decide +kernel)) (ct_name (by decide)) (fun _ _ _ _ _ => pg_name (i := 2) sc_is_part.nd rfl (Or.inl rfl)) (fun _ _ _ _ _ => dts_one (dt_inD (ru65 hr) (de_var (pv 2)) (de_var (pv 1)))) (fun _ _ _ _ _ => de_var (pv 2))))))
theorem sc_set_rank : FnScope ["names"] ["names"] (defScope s_set_rank) := ⟨rfl, rfl, rfl, by decide +kernel, rfl, by decide +kernel, by decide +kernel⟩
theorem has_set_rank (T : Txt mg)  {f : Addr} {fd : FuncData} (F : Fun K "set_rank" "set_rank" s_set_rank f fd) (m : mg "set_rank" = some (.ref f)) (b : Binds K fd ["names"] []) (kb : (fun _ => True) fd) :
    Has P w K mg base "set_rank" 1 ["names"] S_set_rank (fun _ => True) := by
  refine ⟨f, fd, m, F.kp, b, kb, fun_deep (T := t_set_rank) (k := 0) F sc_set_rank ?_ (fun cdv A outer s H E hr => ?_) rd_set_rank⟩
  · intro ds μ Q E h; obtain ⟨_, rfl, _⟩ := h; rfl
  · have tk := takes_of (X := cxOf (L2.CX P w) P w K mg base ["names"] "set_rank" (defScope s_set_rank) f cdv A outer s H E) rfl rfl rfl rfl
    have hp := passes_of (X := cxOf (L2.CX P w) P w K mg base ["names"] "set_rank" (defScope s_set_rank) f cdv A outer s H E) rfl
    exact dss_one (ds_ret (de_tup (da_cons (de_len rfl T.m_len (de_var (pv 0))) (da_cons (de_var (pv 0)) (da_nil)))))
theorem sc_all_sets : FnScope ["outcomes", "found", "name", "names"] ["outcomes"] (defScope s_all_sets) := ⟨rfl, rfl, rfl, by decide +kernel, rfl, by decide +kernel, by decide +kernel⟩
def kb_all_sets (K : PySem.W.Frag) (fd : FuncData) : Prop := KBd K fd ["outcomes"] 0 ["outcomes"] [0]
theorem kb_all_sets_outcomes : ∀ fd, kb_all_sets K fd → KBd K fd ["outcomes"] 0 ["outcomes"] [0] := fun _ h => h
theorem has_all_sets (T : Txt mg) (h_set_rank : Has P w K mg base "set_rank" 1 ["names"] S_set_rank (fun _ => True)) {f : Addr} {fd : FuncData} (F : Fun K "all_sets" "all_sets" s_all_sets f fd) (m : mg "all_sets" = some (.ref f)) (b : Binds K fd ["outcomes"] []) (kb : (kb_all_sets K) fd) :
    Has P w K mg base "all_sets" 4 ["outcomes"] S_all_sets (kb_all_sets K) := by
  refine ⟨f, fd, m, F.kp, b, kb, fun_deep (T := t_all_sets) (k := 3) F sc_all_sets ?_ (fun cdv A outer s H E hr => ?_) rd_all_sets⟩
  · intro ds μ Q E h; obtain ⟨_, rfl, _⟩ := h; rfl
  · have tk := takes_of (X := cxOf (L2.CX P w) P w K mg base ["outcomes", "found", "name", "names"] "all_sets" (defScope s_all_sets) f cdv A outer s H E) rfl rfl rfl rfl
    have hp := passes_of (X := cxOf (L2.CX P w) P w K mg base ["outcomes", "found", "name", "names"] "all_sets" (defScope s_all_sets) f cdv A outer s H E) rfl
    exact dss_cons (ds_set (i := 1) (de_lst (da_cons (de_tup (da_nil)) (da_nil))) sc_all_sets.nd)
      (dss_cons (ds_for hp rfl (di_any (de_var (pv 0))) (dg_name (pg_name (i := 2) sc_all_sets.nd rfl (by first | exact Or.inl rfl | exact Or.inr rfl))) (dss_one (ds_set (i := 1) (de_add (de_var (pv 1)) (de_lc (fz := true) (own := [("names", 3)]) rfl sc_all_sets.nd (di_any (de_var (pv 1))) (blkOk_by (N := ["outcomes", "found", "name", "names"]) (sc := defScope s_all_sets) (own := [("names", 3)]) (by decide +kernel)) (ct_name (by decide)) (fun _ _ _ _ _ => pg_name (i := 3) sc_all_sets.nd rfl (Or.inl rfl)) (fun _ _ _ _ _ => dts_nil) (fun _ _ _ _ _ => de_add (de_var (pv 3)) (de_tup (da_cons (de_var (pv 2)) (da_nil)))))) sc_all_sets.nd)))
      (dss_one (ds_ret (de_sortKH false key_set_rank h_set_rank rfl (hr.mono (by decide)) rfl rfl T.m_sorted (de_var (pv 1))))))
theorem sc_is_set : FnScope ["outcomes", "value"] ["outcomes", "value"] (defScope s_is_set) := ⟨rfl, rfl, rfl, by decide +kernel, rfl, by decide +kernel, by decide +kernel⟩
def kb_is_set (K : PySem.W.Frag) (fd : FuncData) : Prop := KBd K fd ["outcomes", "value"] 0 ["value", "outcomes"] [1, 0]
theorem kb_is_set_value_outcomes : ∀ fd, kb_is_set K fd → KBd K fd ["outcomes", "value"] 0 ["value", "outcomes"] [1, 0] := fun _ h => h
theorem has_is_set (T : Txt mg) (h_is_part : Has P w K mg base "is_part" 1 ["names", "value"] S_is_part (fun _ => True)) {f : Addr} {fd : FuncData} (F : Fun K "is_set" "is_set" s_is_set f fd) (m : mg "is_set" = some (.ref f)) (b : Binds K fd ["outcomes", "value"] []) (kb : (kb_is_set K) fd) :
    Has P w K mg base "is_set" 2 ["outcomes", "value"] S_is_set (kb_is_set K) := by
  refine ⟨f, fd, m, F.kp, b, kb, fun_deep (T := t_is_set) (k := 1) F sc_is_set ?_ (fun cdv A outer s H E hr => ?_) rd_is_set⟩
  · intro ds μ Q E h; obtain ⟨_, _, rfl, _⟩ := h; rfl
  · have tk := takes_of (X := cxOf (L2.CX P w) P w K mg base ["outcomes", "value"] "is_set" (defScope s_is_set) f cdv A outer s H E) rfl rfl rfl rfl
    have hp := passes_of (X := cxOf (L2.CX P w) P w K mg base ["outcomes", "value"] "is_set" (defScope s_is_set) f cdv A outer s H E) rfl
    exact dss_one (ds_ret (de_fnH h_is_part (hr.mono (by decide)) rfl tk (da_cons (de_var (pv 0)) (da_cons (de_var (pv 1)) (da_nil)))))
theorem sc_others : FnScope ["outcomes", "wanted", "name"] ["outcomes", "wanted"] (defScope s_others) := ⟨rfl, rfl, rfl, by decide +kernel, rfl, by decide +kernel, by decide +kernel⟩
def kb_others (K : PySem.W.Frag) (fd : FuncData) : Prop := KBd K fd ["outcomes", "wanted"] 0 ["wanted", "outcomes"] [1, 0]
theorem kb_others_wanted_outcomes : ∀ fd, kb_others K fd → KBd K fd ["outcomes", "wanted"] 0 ["wanted", "outcomes"] [1, 0] := fun _ h => h
theorem has_others (T : Txt mg)  {f : Addr} {fd : FuncData} (F : Fun K "others" "others" s_others f fd) (m : mg "others" = some (.ref f)) (b : Binds K fd ["outcomes", "wanted"] []) (kb : (kb_others K) fd) :
    Has P w K mg base "others" 1 ["outcomes", "wanted"] S_others (kb_others K) := by
  refine ⟨f, fd, m, F.kp, b, kb, fun_deep (T := t_others) (k := 0) F sc_others ?_ (fun cdv A outer s H E hr => ?_) rd_others⟩
  · intro ds μ Q E h; obtain ⟨_, _, rfl, _⟩ := h; rfl
  · have tk := takes_of (X := cxOf (L2.CX P w) P w K mg base ["outcomes", "wanted", "name"] "others" (defScope s_others) f cdv A outer s H E) rfl rfl rfl rfl
    have hp := passes_of (X := cxOf (L2.CX P w) P w K mg base ["outcomes", "wanted", "name"] "others" (defScope s_others) f cdv A outer s H E) rfl
    exact dss_one (ds_ret (de_tuple rfl T.m_tuple (de_lc (fz := true) (own := [("name", 2)]) rfl sc_others.nd (di_any (de_var (pv 0))) (blkOk_by (N := ["outcomes", "wanted", "name"]) (sc := defScope s_others) (own := [("name", 2)]) (by decide +kernel)) (ct_name (by decide)) (fun _ _ _ _ _ => pg_name (i := 2) sc_others.nd rfl (Or.inl rfl)) (fun _ _ _ _ _ => dts_one (dt_notin (de_var (pv 2)) (de_var (pv 1)))) (fun _ _ _ _ _ => de_var (pv 2)))))
theorem sc_start : FnScope ["_law_script", "_law_cell"] ["_law_script"] (defScope s_start) := ⟨rfl, rfl, rfl, by decide +kernel, rfl, by decide +kernel, by decide +kernel⟩
theorem has_start (T : Txt mg)  {f : Addr} {fd : FuncData} (F : Fun K "_law_start" "_law_start" s_start f fd) (m : mg "_law_start" = some (.ref f)) (b : Binds K fd ["_law_script"] []) (kb : (fun _ => True) fd) :
    Has P w K mg base "_law_start" 1 ["_law_script"] S_start (fun _ => True) := by
  refine ⟨f, fd, m, F.kp, b, kb, FnOk.imp (fun_deep (T := t_start) (k := 0) F sc_start ?_ (fun cdv A outer s H E hr => ?_) rd_startE) start_orc⟩
  · intro ds μ Q E h; obtain ⟨_, rfl, _⟩ := h; rfl
  · have tk := takes_of (X := cxOf (L2.CX P w) P w K mg base ["_law_script", "_law_cell"] "_law_start" (defScope s_start) f cdv A outer s H E) rfl rfl rfl rfl
    have hp := passes_of (X := cxOf (L2.CX P w) P w K mg base ["_law_script", "_law_cell"] "_law_start" (defScope s_start) f cdv A outer s H E) rfl
    exact dss_one (ds_ret (de_lstM (da_cons (de_lc (fz := false) (own := [("_law_cell", 1)]) rfl sc_start.nd (di_any (de_var (pv 0))) (blkOk_by (N := ["_law_script", "_law_cell"]) (sc := defScope s_start) (own := [("_law_cell", 1)]) (by decide +kernel)) (ct_name (by decide)) (fun _ _ _ _ _ => pg_name (i := 1) sc_start.nd rfl (Or.inl rfl)) (fun _ _ _ _ _ => dts_one (dt_ge (de_abs rfl T.m_abs (de_var (pv 1))) (de_pow (de_int pe_int) (de_int pe_int)))) (fun _ _ _ _ _ => de_abs rfl T.m_abs (de_var (pv 1)))) (da_cons (de_addM (de_list true rfl T.m_list (de_var (pv 0))) (de_lst (da_cons (de_int pe_int) (da_nil)))) (da_cons (de_int pe_int) (da_nil))))))
theorem sc_draw : FnScope ["_law_state", "_law_size", "_law_digit", "_law_cell", "_law_one"] ["_law_state", "_law_size"] (defScope s_draw) := ⟨rfl, rfl, rfl, by decide +kernel, rfl, by decide +kernel, by decide +kernel⟩
theorem has_draw (T : Txt mg)  {f : Addr} {fd : FuncData} (F : Fun K "_law_draw" "_law_draw" s_draw f fd) (m : mg "_law_draw" = some (.ref f)) (b : Binds K fd ["_law_state", "_law_size"] []) (kb : (fun _ => True) fd) :
    Has P w K mg base "_law_draw" 1 ["_law_state", "_law_size"] S_draw (fun _ => True) := by
  refine ⟨f, fd, m, F.kp, b, kb, FnOk.imp (fun_deep (T := t_draw) (k := 0) F sc_draw ?_ (fun cdv A outer s H E hr => ?_) rd_drawE) draw_orc⟩
  · intro ds μ Q E h; obtain ⟨_, _, _, _, _, _, _, rfl, _⟩ := h; rfl
  · have tk := takes_of (X := cxOf (L2.CX P w) P w K mg base ["_law_state", "_law_size", "_law_digit", "_law_cell", "_law_one"] "_law_draw" (defScope s_draw) f cdv A outer s H E) rfl rfl rfl rfl
    have hp := passes_of (X := cxOf (L2.CX P w) P w K mg base ["_law_state", "_law_size", "_law_digit", "_law_cell", "_law_one"] "_law_draw" (defScope s_draw) f cdv A outer s H E) rfl
    exact dss_cons (ds_augI (de_var (pv 0)) (de_int pe_int) (de_int pe_int) ip_add)
      (dss_cons (ds_while hp (PW.pt (pw_and' (dt_ne hr.units (de_sub_ (de_var (pv 0)) (de_int pe_int)) (de_lst (da_nil))) (pw_and1 (dt_eq hr.units (de_sub_ (de_sub_ (de_var (pv 0)) (de_int pe_int)) (de_int pe_int)) (de_int pe_int))))) (dss_one (ds_asg (de_slice false (de_sub_ (de_var (pv 0)) (de_int pe_int)) (do_some (de_int pe_int)) do_none) (dg_setI (de_var (pv 0)) (de_int pe_int) (pg_sub (de_var (pv 0)) (de_int pe_int) set_list)))))
      (dss_cons (ds_if (dt_ne hr.units (de_sub_ (de_var (pv 0)) (de_int pe_int)) (de_lst (da_nil))) (dss_cons (ds_set (i := 2) (de_mod (de_intC rfl T.m_int (de_sub_ (de_sub_ (de_var (pv 0)) (de_int pe_int)) (de_int pe_int))) (de_var (pv 1))) sc_draw.nd)
      (dss_cons (ds_asg (de_fdiv (de_sub_ (de_sub_ (de_var (pv 0)) (de_int pe_int)) (de_int pe_int)) (de_var (pv 1))) (dg_setI (de_sub_ (de_var (pv 0)) (de_int pe_int)) (de_int pe_int) (pg_sub (de_sub_ (de_var (pv 0)) (de_int pe_int)) (de_int pe_int) set_list)))
      (dss_one (ds_ret (de_var (pv 2)))))) (dss_nil))
      (dss_cons (ds_set (i := 3) (de_mod (de_intC rfl T.m_int (de_sub_ (de_sub_ (de_var (pv 0)) (de_int pe_int)) (de_mod (de_intC rfl T.m_int (de_sub_ (de_var (pv 0)) (de_int pe_int))) (de_len rfl T.m_len (de_sub_ (de_var (pv 0)) (de_int pe_int)))))) (de_int pe_int)) sc_draw.nd)
      (dss_cons (ds_set (i := 4) (de_mod (de_intC rfl T.m_int (de_pow (de_add (de_add (de_mul (de_var (pv 3)) (de_int pe_int)) (de_mul (de_sub_ (de_var (pv 0)) (de_int pe_int)) (de_int pe_int))) (de_int pe_int)) (de_int pe_int))) (de_int pe_int)) sc_draw.nd)
      (dss_one (ds_ret (de_mod (de_mod (de_intC rfl T.m_int (de_pow (de_add (de_add (de_mul (de_var (pv 4)) (de_int pe_int)) (de_mul (de_sub_ (de_var (pv 0)) (de_int pe_int)) (de_int pe_int))) (de_int pe_int)) (de_int pe_int))) (de_int pe_int)) (de_var (pv 1)))))))))
theorem sc_names : FnScope ["_law_state", "_law_count", "_law_signs", "_law_stem", "_law_letter", "_law_offset", "_law_stride", "_law_plan", "_law_step", "_law_whole", "_law_words", "_law_k", "_law_sign", "_law_back"] ["_law_state", "_law_count"] (defScope s_names) := ⟨rfl, rfl, rfl, by decide +kernel, rfl, by decide +kernel, by decide +kernel⟩
theorem has_names (T : Txt mg) (h_draw : Has P w K mg base "_law_draw" 1 ["_law_state", "_law_size"] S_draw (fun _ => True)) {f : Addr} {fd : FuncData} (F : Fun K "_law_names" "_law_names" s_names f fd) (m : mg "_law_names" = some (.ref f)) (b : Binds K fd ["_law_state", "_law_count"] []) (kb : (fun _ => True) fd) :
    Has P w K mg base "_law_names" 2 ["_law_state", "_law_count"] S_names (fun _ => True) := by
  refine ⟨f, fd, m, F.kp, b, kb, fun_deep (T := t_names) (k := 1) F sc_names ?_ (fun cdv A outer s H E hr => ?_) rd_names⟩
  · intro ds μ Q E h; obtain ⟨_, _, _, rfl, _⟩ := h; rfl
  · have tk := takes_of (X := cxOf (L2.CX P w) P w K mg base ["_law_state", "_law_count", "_law_signs", "_law_stem", "_law_letter", "_law_offset", "_law_stride", "_law_plan", "_law_step", "_law_whole", "_law_words", "_law_k", "_law_sign", "_law_back"] "_law_names" (defScope s_names) f cdv A outer s H E) rfl rfl rfl rfl
    have hp := passes_of (X := cxOf (L2.CX P w) P w K mg base ["_law_state", "_law_count", "_law_signs", "_law_stem", "_law_letter", "_law_offset", "_law_stride", "_law_plan", "_law_step", "_law_whole", "_law_words", "_law_k", "_law_sign", "_law_back"] "_law_names" (defScope s_names) f cdv A outer s H E) rfl
    exact dss_cons (ds_set (i := 2) (de_str pe_str) sc_names.nd)
      (dss_cons (ds_set (i := 3) (de_join (de_str pe_str) (de_lc (fz := true) (own := [("_law_k", 11)]) rfl sc_names.nd (di_range1 rfl T.m_range (de_fnH h_draw (hr.mono (by decide)) rfl tk (da_cons (de_var (pv 0)) (da_cons (de_int pe_int) (da_nil))))) (blkOk_by (N := ["_law_state", "_law_count", "_law_signs", "_law_stem", "_law_letter", "_law_offset", "_law_stride", "_law_plan", "_law_step", "_law_whole", "_law_words", "_law_k", "_law_sign", "_law_back"]) (sc := defScope s_names) (own := [("_law_k", 11)]) (by decide +kernel)) (ct_name (by decide)) (fun _ _ _ _ _ => pg_name (i := 11) sc_names.nd rfl (Or.inl rfl)) (fun _ _ _ _ _ => dts_nil) (fun _ _ _ _ _ => de_sub_ (de_var (pv 2)) (de_fnH h_draw (hr.mono (by decide)) rfl takes0 (da_cons (de_var (pv 0)) (da_cons (de_int pe_int) (da_nil))))))) sc_names.nd)
      (dss_cons (ds_set (i := 4) (de_sub_ (de_var (pv 2)) (de_fnH h_draw (hr.mono (by decide)) rfl tk (da_cons (de_var (pv 0)) (da_cons (de_int pe_int) (da_nil))))) sc_names.nd)
      (dss_cons (ds_set (i := 5) (de_fnH h_draw (hr.mono (by decide)) rfl tk (da_cons (de_var (pv 0)) (da_cons (de_int pe_int) (da_nil)))) sc_names.nd)
      (dss_cons (ds_set (i := 6) (de_sub_ (de_lst (da_cons (de_int pe_int) (da_cons (de_int pe_int) (da_cons (de_int pe_int) (da_cons (de_int pe_int) (da_cons (de_int pe_int) (da_cons (de_int pe_int) (da_nil)))))))) (de_fnH h_draw (hr.mono (by decide)) rfl tk (da_cons (de_var (pv 0)) (da_cons (de_int pe_int) (da_nil))))) sc_names.nd)
      (dss_cons (ds_set (i := 7) (de_fnH h_draw (hr.mono (by decide)) rfl tk (da_cons (de_var (pv 0)) (da_cons (de_int pe_int) (da_nil)))) sc_names.nd)
      (dss_cons (ds_if (PW.pt (pw_and' (dt_eq hr.units (de_var (pv 7)) (de_int pe_int)) (pw_and1 (dt_lt (de_var (pv 1)) (de_int pe_int))))) (dss_one (ds_ret (de_slice true (de_lst (da_cons (de_str pe_str) (da_cons (de_str pe_str) (da_cons (de_str pe_str) (da_cons (de_str pe_str) (da_cons (de_str pe_str) (da_cons (de_str pe_str) (da_nil)))))))) do_none (do_some (de_var (pv 1)))))) (dss_nil))
      (dss_cons (ds_if (PW.pt (pw_or' (dt_eq hr.units (de_var (pv 7)) (de_int pe_int)) (pw_or1 (PW.pt (pw_and' (dt_eq hr.units (de_var (pv 7)) (de_int pe_int)) (pw_and1 (dt_gt (de_var (pv 1)) (de_int pe_int)))))))) (dss_cons (ds_set (i := 8) (de_add (de_int pe_int) (de_fnH h_draw (hr.mono (by decide)) rfl tk (da_cons (de_var (pv 0)) (da_cons (de_int pe_int) (da_nil))))) sc_names.nd)
      (dss_one (ds_ret (de_lc (fz := true) (own := [("_law_k", 11)]) rfl sc_names.nd (di_range1 rfl T.m_range (de_var (pv 1))) (blkOk_by (N := ["_law_state", "_law_count", "_law_signs", "_law_stem", "_law_letter", "_law_offset", "_law_stride", "_law_plan", "_law_step", "_law_whole", "_law_words", "_law_k", "_law_sign", "_law_back"]) (sc := defScope s_names) (own := [("_law_k", 11)]) (by decide +kernel)) (ct_name (by decide)) (fun _ _ _ _ _ => pg_name (i := 11) sc_names.nd rfl (Or.inl rfl)) (fun _ _ _ _ _ => dts_nil) (fun _ _ _ _ _ => de_add (de_var (pv 4)) (de_strC rfl T.m_str (de_mul (de_var (pv 8)) (de_add (de_var (pv 11)) (de_int pe_int))))))))) (dss_nil))
      (dss_cons (ds_if (dt_eq hr.units (de_var (pv 7)) (de_int pe_int)) (dss_cons (ds_set (i := 9) (de_add (de_var (pv 4)) (de_join (de_str pe_str) (de_lc (fz := true) (own := [("_law_k", 11)]) rfl sc_names.nd (di_range1 rfl T.m_range (de_int pe_int)) (blkOk_by (N := ["_law_state", "_law_count", "_law_signs", "_law_stem", "_law_letter", "_law_offset", "_law_stride", "_law_plan", "_law_step", "_law_whole", "_law_words", "_law_k", "_law_sign", "_law_back"]) (sc := defScope s_names) (own := [("_law_k", 11)]) (by decide +kernel)) (ct_name (by decide)) (fun _ _ _ _ _ => pg_name (i := 11) sc_names.nd rfl (Or.inl rfl)) (fun _ _ _ _ _ => dts_nil) (fun _ _ _ _ _ => de_sub_ (de_var (pv 2)) (de_fnH h_draw (hr.mono (by decide)) rfl takes0 (da_cons (de_var (pv 0)) (da_cons (de_int pe_int) (da_nil)))))))) sc_names.nd)
      (dss_one (ds_ret (de_lc (fz := true) (own := [("_law_k", 11)]) rfl sc_names.nd (di_range1 rfl T.m_range (de_var (pv 1))) (blkOk_by (N := ["_law_state", "_law_count", "_law_signs", "_law_stem", "_law_letter", "_law_offset", "_law_stride", "_law_plan", "_law_step", "_law_whole", "_law_words", "_law_k", "_law_sign", "_law_back"]) (sc := defScope s_names) (own := [("_law_k", 11)]) (by decide +kernel)) (ct_name (by decide)) (fun _ _ _ _ _ => pg_name (i := 11) sc_names.nd rfl (Or.inl rfl)) (fun _ _ _ _ _ => dts_nil) (fun _ _ _ _ _ => de_slice true (de_var (pv 9)) do_none (do_some (de_add (de_var (pv 11)) (de_int pe_int)))))))) (dss_nil))
      (dss_cons (ds_set (i := 10) (de_lstM (da_nil)) sc_names.nd)
      (dss_cons (ds_for hp rfl (di_range1 rfl T.m_range (de_var (pv 1))) (dg_name (pg_name (i := 11) sc_names.nd rfl (by first | exact Or.inl rfl | exact Or.inr rfl))) (dss_cons (ds_set (i := 12) (de_sub_ (de_var (pv 2)) (de_mod (de_intC rfl T.m_int (de_add (de_var (pv 5)) (de_mul (de_var (pv 6)) (de_var (pv 11))))) (de_int pe_int))) sc_names.nd)
      (dss_cons (ds_set (i := 13) (de_sub_ (de_lst (da_cons (de_var (pv 3)) (da_cons (de_str pe_str) (da_nil)))) (de_intC rfl T.m_int (de_and (de_gt (de_var (pv 7)) (de_int pe_int)) (de_one (de_eq hr.units (de_mod (de_var (pv 11)) (de_int pe_int)) (de_int pe_int)))))) sc_names.nd)
      (dss_one (ds_drop (de_append (de_var (pv 10)) (de_sub_ (de_lst (da_cons (de_add (de_add (de_var (pv 4)) (de_var (pv 13))) (de_var (pv 12))) (da_cons (de_add (de_var (pv 12)) (de_var (pv 13))) (da_nil)))) (de_mod (de_intC rfl T.m_int (de_var (pv 7))) (de_int pe_int)))))))))
      (dss_one (ds_ret (de_var (pv 10))))))))))))))
theorem sc_sets : FnScope ["_law_names_here", "_law_found", "_law_label", "_law_pair", "_law_chosen"] ["_law_names_here"] (defScope s_sets) := ⟨rfl, rfl, rfl, by decide +kernel, rfl, by decide +kernel, by decide +kernel⟩
theorem has_sets (T : Txt mg)  {f : Addr} {fd : FuncData} (F : Fun K "_law_sets" "_law_sets" s_sets f fd) (m : mg "_law_sets" = some (.ref f)) (b : Binds K fd ["_law_names_here"] []) (kb : (fun _ => True) fd) :
    Has P w K mg base "_law_sets" 1 ["_law_names_here"] S_sets (fun _ => True) := by
  refine ⟨f, fd, m, F.kp, b, kb, fun_deep (T := t_sets) (k := 0) F sc_sets ?_ (fun cdv A outer s H E hr => ?_) rd_sets⟩
  · intro ds μ Q E h; obtain ⟨_, rfl, _⟩ := h; rfl
  · have tk := takes_of (X := cxOf (L2.CX P w) P w K mg base ["_law_names_here", "_law_found", "_law_label", "_law_pair", "_law_chosen"] "_law_sets" (defScope s_sets) f cdv A outer s H E) rfl rfl rfl rfl
    have hp := passes_of (X := cxOf (L2.CX P w) P w K mg base ["_law_names_here", "_law_found", "_law_label", "_law_pair", "_law_chosen"] "_law_sets" (defScope s_sets) f cdv A outer s H E) rfl
    exact dss_cons (ds_set (i := 1) (de_lst (da_cons (de_tup (da_nil)) (da_nil))) sc_sets.nd)
      (dss_cons (ds_for hp rfl (di_any (de_var (pv 0))) (dg_name (pg_name (i := 2) sc_sets.nd rfl (by first | exact Or.inl rfl | exact Or.inr rfl))) (dss_one (ds_set (i := 1) (de_add (de_var (pv 1)) (de_lc (fz := true) (own := [("_law_chosen", 4)]) rfl sc_sets.nd (di_any (de_var (pv 1))) (blkOk_by (N := ["_law_names_here", "_law_found", "_law_label", "_law_pair", "_law_chosen"]) (sc := defScope s_sets) (own := [("_law_chosen", 4)]) (by decide +kernel)) (ct_name (by decide)) (fun _ _ _ _ _ => pg_name (i := 4) sc_sets.nd rfl (Or.inl rfl)) (fun _ _ _ _ _ => dts_nil) (fun _ _ _ _ _ => de_add (de_var (pv 4)) (de_tup (da_cons (de_var (pv 2)) (da_nil)))))) sc_sets.nd)))
      (dss_one (ds_ret (de_lc (fz := true) (own := [("_law_pair", 3)]) rfl sc_sets.nd (di_any (de_sorted true hr.units rfl T.m_sorted (de_lc (fz := true) (own := [("_law_chosen", 4)]) rfl sc_sets.nd (di_any (de_var (pv 1))) (blkOk_by (N := ["_law_names_here", "_law_found", "_law_label", "_law_pair", "_law_chosen"]) (sc := defScope s_sets) (own := [("_law_chosen", 4)]) (by decide +kernel)) (ct_name (by decide)) (fun _ _ _ _ _ => pg_name (i := 4) sc_sets.nd rfl (Or.inl rfl)) (fun _ _ _ _ _ => dts_nil) (fun _ _ _ _ _ => de_tup (da_cons (de_len rfl T.m_len (de_var (pv 4))) (da_cons (de_var (pv 4)) (da_nil))))))) (blkOk_by (N := ["_law_names_here", "_law_found", "_law_label", "_law_pair", "_law_chosen"]) (sc := defScope s_sets) (own := [("_law_pair", 3)]) (by decide +kernel)) (ct_name (by decide)) (fun _ _ _ _ _ => pg_name (i := 3) sc_sets.nd rfl (Or.inl rfl)) (fun _ _ _ _ _ => dts_nil) (fun _ _ _ _ _ => de_sub_ (de_var (pv 3)) (de_int pe_int))))))
theorem sc_any : FnScope ["_law_state", "_law_names_here", "_law_menu", "_law_row", "_law_part", "_law_things", "_law_k", "_law_label"] ["_law_state", "_law_names_here"] (defScope s_any) := ⟨rfl, rfl, rfl, by decide +kernel, rfl, by decide +kernel, by decide +kernel⟩
theorem has_any (T : Txt mg) (h_draw : Has P w K mg base "_law_draw" 1 ["_law_state", "_law_size"] S_draw (fun _ => True)) {f : Addr} {fd : FuncData} (F : Fun K "_law_any" "_law_any" s_any f fd) (m : mg "_law_any" = some (.ref f)) (b : Binds K fd ["_law_state", "_law_names_here"] []) (kb : (fun _ => True) fd) :
    Has P w K mg base "_law_any" 2 ["_law_state", "_law_names_here"] S_any (fun _ => True) := by
  refine ⟨f, fd, m, F.kp, b, kb, fun_deep (T := t_any) (k := 1) F sc_any ?_ (fun cdv A outer s H E hr => ?_) rd_any⟩
  · intro ds μ Q E h; obtain ⟨_, _, _, rfl, _⟩ := h; rfl
  · have tk := takes_of (X := cxOf (L2.CX P w) P w K mg base ["_law_state", "_law_names_here", "_law_menu", "_law_row", "_law_part", "_law_things", "_law_k", "_law_label"] "_law_any" (defScope s_any) f cdv A outer s H E) rfl rfl rfl rfl
    have hp := passes_of (X := cxOf (L2.CX P w) P w K mg base ["_law_state", "_law_names_here", "_law_menu", "_law_row", "_law_part", "_law_things", "_law_k", "_law_label"] "_law_any" (defScope s_any) f cdv A outer s H E) rfl
    exact dss_cons (ds_set (i := 2) (de_add (de_list true rfl T.m_list (de_var (pv 1))) (de_lst (da_cons (de_str pe_str) (da_cons (de_str pe_str) (da_cons (de_int pe_int) (da_cons (de_non pe_non) (da_cons (de_tup (da_nil)) (da_cons (de_str pe_str) (da_nil))))))))) sc_any.nd)
      (dss_cons (ds_setLc (i := 3) (fz := true) (own := [("_law_k", 6)]) rfl sc_any.nd rfl rfl (sw_true rfl rfl rfl (by decide +kernel)) (di_range1 rfl T.m_range (de_fnH h_draw (hr.mono (by decide)) rfl tk (da_cons (de_var (pv 0)) (da_cons (de_int pe_int) (da_nil))))) (blkOk_by (N := ["_law_state", "_law_names_here", "_law_menu", "_law_row", "_law_part", "_law_things", "_law_k", "_law_label"]) (sc := defScope s_any) (own := [("_law_k", 6)]) (by decide +kernel)) (ct_name (by decide)) (fun _ _ _ _ _ => pg_name (i := 6) sc_any.nd rfl (Or.inl rfl)) (fun _ _ _ _ _ => dts_nil) (fun _ _ _ _ _ => de_sub_ (de_var (pv 2)) (de_fnH h_draw (hr.mono (by decide)) rfl takes0 (da_cons (de_var (pv 0)) (da_cons (de_len rfl T.m_len (de_var (pv 2))) (da_nil))))))
      (dss_cons (ds_set (i := 4) (de_tuple rfl T.m_tuple (de_lc (fz := true) (own := [("_law_label", 7)]) rfl sc_any.nd (di_any (de_var (pv 1))) (blkOk_by (N := ["_law_state", "_law_names_here", "_law_menu", "_law_row", "_law_part", "_law_things", "_law_k", "_law_label"]) (sc := defScope s_any) (own := [("_law_label", 7)]) (by decide +kernel)) (ct_name (by decide)) (fun _ _ _ _ _ => pg_name (i := 7) sc_any.nd rfl (Or.inl rfl)) (fun _ _ _ _ _ => dts_one (dt_eq hr.units (de_fnH h_draw (hr.mono (by decide)) rfl takes0 (da_cons (de_var (pv 0)) (da_cons (de_int pe_int) (da_nil)))) (de_int pe_int))) (fun _ _ _ _ _ => de_var (pv 7)))) sc_any.nd)
      (dss_cons (ds_set (i := 5) (de_lst (da_cons (de_var (pv 4)) (da_cons (de_tuple rfl T.m_tuple (de_var (pv 3))) (da_cons (de_list true rfl T.m_list (de_var (pv 4))) (da_cons (de_revT (de_var (pv 4))) (da_cons (de_add (de_var (pv 4)) (de_slice true (de_var (pv 4)) do_none (do_some (de_int pe_int)))) (da_cons (de_add (de_var (pv 4)) (de_tup (da_cons (de_sub_ (de_var (pv 2)) (de_fnH h_draw (hr.mono (by decide)) rfl tk (da_cons (de_var (pv 0)) (da_cons (de_len rfl T.m_len (de_var (pv 2))) (da_nil))))) (da_nil)))) (da_nil)))))))) sc_any.nd)
      (dss_cons (ds_set (i := 5) (de_add (de_var (pv 5)) (de_lst (da_cons (de_var (pv 3)) (da_cons (de_join (de_str pe_str) (de_var (pv 4))) (da_cons (de_join (de_str pe_str) (de_var (pv 1))) (da_cons (de_non pe_non) (da_cons (de_bl pe_bl) (da_cons (de_int pe_int) (da_cons (de_dict true (.cons (de_sub_ (de_var (pv 1)) (de_int pe_int)) (de_int pe_int) (.nil))) (da_cons (de_tup (da_cons (de_var (pv 4)) (da_nil))) (da_cons (de_neg (de_int pe_int)) (da_cons (de_tup (da_cons (de_list true rfl T.m_list (de_var (pv 4))) (da_nil))) (da_nil))))))))))))) sc_any.nd)
      (dss_one (ds_ret (de_sub_ (de_var (pv 5)) (de_fnH h_draw (hr.mono (by decide)) rfl tk (da_cons (de_var (pv 0)) (da_cons (de_len rfl T.m_len (de_var (pv 5))) (da_nil)))))))))))
theorem sc_lis_set : FnScope ["_law_names_here", "_law_thing", "_law_label"] ["_law_names_here", "_law_thing"] (defScope s_lis_set) := ⟨rfl, rfl, rfl, by decide +kernel, rfl, by decide +kernel, by decide +kernel⟩
theorem has_lis_set (T : Txt mg)  {f : Addr} {fd : FuncData} (F : Fun K "_law_is_set" "_law_is_set" s_lis_set f fd) (m : mg "_law_is_set" = some (.ref f)) (b : Binds K fd ["_law_names_here", "_law_thing"] []) (kb : (fun _ => True) fd) :
    Has P w K mg base "_law_is_set" 1 ["_law_names_here", "_law_thing"] S_lis_set (fun _ => True) := by
  refine ⟨f, fd, m, F.kp, b, kb, fun_deep (T := t_lis_set) (k := 0) F sc_lis_set ?_ (fun cdv A outer s H E hr => ?_) rd_lis_set⟩
  · intro ds μ Q E h; obtain ⟨_, _, rfl, _⟩ := h; rfl
  · have tk := takes_of (X := cxOf (L2.CX P w) P w K mg base ["_law_names_here", "_law_thing", "_law_label"] "_law_is_set" (defScope s_lis_set) f cdv A outer s H E) rfl rfl rfl rfl
    have hp := passes_of (X := cxOf (L2.CX P w) P w K mg base ["_law_names_here", "_law_thing", "_law_label"] "_law_is_set" (defScope s_lis_set) f cdv A outer s H E) rfl
    exact dss_cons (ds_if (dt_not (dt_val (de_isi .tup (by decide) rfl T.m_isinstance (de_var (pv 1)) rfl T.m_tuple (by decide +kernel)))) (dss_one (ds_ret (de_bl pe_bl))) (dss_nil))
      (dss_one (ds_ret (de_eq hr.units (de_list true rfl T.m_list (de_var (pv 1))) (de_lc (fz := true) (own := [("_law_label", 2)]) rfl sc_lis_set.nd (di_any (de_var (pv 0))) (blkOk_by (N := ["_law_names_here", "_law_thing", "_law_label"]) (sc := defScope s_lis_set) (own := [("_law_label", 2)]) (by decide +kernel)) (ct_name (by decide)) (fun _ _ _ _ _ => pg_name (i := 2) sc_lis_set.nd rfl (Or.inl rfl)) (fun _ _ _ _ _ => dts_one (dt_inD (ru65 hr) (de_var (pv 2)) (de_list true rfl T.m_list (de_var (pv 1))))) (fun _ _ _ _ _ => de_var (pv 2))))))
theorem sc_law : FnScope ["_law_script", "_law_state", "_law_pool", "_law_due", "_law_told", "_law_chosen", "_law_left", "_law_turn", "_law_thing", "_law_actual", "_law_few", "_law_label"] ["_law_script"] (defScope s_law) := ⟨rfl, rfl, rfl, by decide +kernel, rfl, by decide +kernel, by decide +kernel⟩
theorem ok_law (T : Txt mg) (h_any : Has P w K mg base "_law_any" 2 ["_law_state", "_law_names_here"] S_any (fun _ => True)) (h_draw : Has P w K mg base "_law_draw" 1 ["_law_state", "_law_size"] S_draw (fun _ => True)) (h_lis_set : Has P w K mg base "_law_is_set" 1 ["_law_names_here", "_law_thing"] S_lis_set (fun _ => True)) (h_names : Has P w K mg base "_law_names" 2 ["_law_state", "_law_count"] S_names (fun _ => True)) (h_sets : Has P w K mg base "_law_sets" 1 ["_law_names_here"] S_sets (fun _ => True)) (h_start : Has P w K mg base "_law_start" 1 ["_law_script"] S_start (fun _ => True)) (h_all_sets : Has P w K mg base "all_sets" 4 ["outcomes"] S_all_sets (kb_all_sets K)) (h_is_set : Has P w K mg base "is_set" 2 ["outcomes", "value"] S_is_set (kb_is_set K)) (h_others : Has P w K mg base "others" 1 ["outcomes", "wanted"] S_others (kb_others K)) {f : Addr} {fd : FuncData} (F : Fun K "law" "law" s_law f fd) : FnOk P w K mg base (L2.CX P w) 5 f fd ["_law_script"] (spOf K S_law) := by
  refine fun_deep (T := t_law) (k := 4) F sc_law ?_ (fun cdv A outer s H E hr => ?_) rd_law
  · intro ds μ Q E h; obtain ⟨_, rfl, _⟩ := h; rfl
  · have tk := takes_of (X := cxOf (L2.CX P w) P w K mg base ["_law_script", "_law_state", "_law_pool", "_law_due", "_law_told", "_law_chosen", "_law_left", "_law_turn", "_law_thing", "_law_actual", "_law_few", "_law_label"] "law" (defScope s_law) f cdv A outer s H E) rfl rfl rfl rfl
    have hp := passes_of (X := cxOf (L2.CX P w) P w K mg base ["_law_script", "_law_state", "_law_pool", "_law_due", "_law_told", "_law_chosen", "_law_left", "_law_turn", "_law_thing", "_law_actual", "_law_few", "_law_label"] "law" (defScope s_law) f cdv A outer s H E) rfl
    exact dss_cons (ds_set (i := 1) (de_fnH h_start (hr.mono (by decide)) rfl tk (da_cons (de_var (pv 0)) (da_nil))) sc_law.nd)
      (dss_cons (ds_set (i := 2) (de_tuple rfl T.m_tuple (de_sorted true hr.units rfl T.m_sorted (de_fnH h_names (hr.mono (by decide)) rfl tk (da_cons (de_var (pv 1)) (da_cons (de_add (de_int pe_int) (de_fnH h_draw (hr.mono (by decide)) rfl tk (da_cons (de_var (pv 1)) (da_cons (de_int pe_int) (da_nil))))) (da_nil)))))) sc_law.nd)
      (dss_cons (ds_set (i := 3) (de_fnH h_sets (hr.mono (by decide)) rfl tk (da_cons (de_var (pv 2)) (da_nil))) sc_law.nd)
      (dss_cons (ds_set (i := 4) (de_fnH h_all_sets (hr.mono (by decide)) rfl tk (da_cons (de_var (pv 2)) (da_nil))) sc_law.nd)
      (dss_cons (ds_if (PW.pt (pw_or' (dt_not (dt_val (de_isi .list (by decide) rfl T.m_isinstance (de_var (pv 4)) rfl T.m_list (by decide +kernel)))) (pw_or1 (dt_ne hr.units (de_var (pv 4)) (de_var (pv 3)))))) (dss_one (ds_ret (de_bl pe_bl))) (dss_nil))
      (dss_cons (ds_drop (de_pop0 (de_var (pv 4))))
      (dss_cons (ds_drop (de_append (de_var (pv 4)) (de_tup (da_cons (de_str pe_str) (da_nil)))))
      (dss_cons (ds_if (dt_ne hr.units (de_kw0H h_all_sets (hr.mono (by decide)) rfl kb_all_sets_outcomes tk (dk_cons (de_var (pv 2)) (dk_nil))) (de_var (pv 3))) (dss_one (ds_ret (de_bl pe_bl))) (dss_nil))
      (dss_cons (ds_for hp rfl (di_any (de_var (pv 3))) (dg_name (pg_name (i := 5) sc_law.nd rfl (by first | exact Or.inl rfl | exact Or.inr rfl))) (dss_cons (ds_set (i := 6) (de_tuple rfl T.m_tuple (de_lc (fz := true) (own := [("_law_label", 11)]) rfl sc_law.nd (di_any (de_var (pv 2))) (blkOk_by (N := ["_law_script", "_law_state", "_law_pool", "_law_due", "_law_told", "_law_chosen", "_law_left", "_law_turn", "_law_thing", "_law_actual", "_law_few", "_law_label"]) (sc := defScope s_law) (own := [("_law_label", 11)]) (by decide +kernel)) (ct_name (by decide)) (fun _ _ _ _ _ => pg_name (i := 11) sc_law.nd rfl (Or.inl rfl)) (fun _ _ _ _ _ => dts_one (dt_notin (de_var (pv 11)) (de_var (pv 5)))) (fun _ _ _ _ _ => de_var (pv 11)))) sc_law.nd)
      (dss_cons (ds_if (PW.pt (pw_or' (dt_isnotB (de_fnH h_is_set (hr.mono (by decide)) rfl tk (da_cons (de_var (pv 2)) (da_cons (de_var (pv 5)) (da_nil)))) (de_bl pe_bl)) (pw_or1 (dt_ne hr.units (de_fnH h_others (hr.mono (by decide)) rfl tk (da_cons (de_var (pv 2)) (da_cons (de_var (pv 5)) (da_nil)))) (de_var (pv 6)))))) (dss_one (ds_ret (de_bl pe_bl))) (dss_nil))
      (dss_one (ds_if (dt_ne hr.units (de_kw0H h_others (hr.mono (by decide)) rfl kb_others_wanted_outcomes tk (dk_cons (de_var (pv 6)) (dk_cons (de_var (pv 2)) (dk_nil)))) (de_var (pv 5))) (dss_one (ds_ret (de_bl pe_bl))) (dss_nil))))))
      (dss_cons (ds_for hp rfl (di_range1 rfl T.m_range (de_int pe_int)) (dg_name (pg_name (i := 7) sc_law.nd rfl (by first | exact Or.inl rfl | exact Or.inr rfl))) (dss_cons (ds_set (i := 8) (de_fnH h_any (hr.mono (by decide)) rfl tk (da_cons (de_var (pv 1)) (da_cons (de_var (pv 2)) (da_nil)))) sc_law.nd)
      (dss_cons (ds_set (i := 9) (de_fnH h_is_set (hr.mono (by decide)) rfl tk (da_cons (de_var (pv 2)) (da_cons (de_var (pv 8)) (da_nil)))) sc_law.nd)
      (dss_one (ds_if (PW.pt (pw_or' (dt_not (dt_val (de_isi .bool (by decide) rfl T.m_isinstance (de_var (pv 9)) rfl T.m_bool (by decide +kernel)))) (pw_or1 (dt_ne hr.units (de_var (pv 9)) (de_fnH h_lis_set (hr.mono (by decide)) rfl tk (da_cons (de_var (pv 2)) (da_cons (de_var (pv 8)) (da_nil)))))))) (dss_one (ds_ret (de_bl pe_bl))) (dss_nil))))))
      (dss_cons (ds_if (PW.pt (pw_or' (dt_ne hr.units (de_fnH h_all_sets (hr.mono (by decide)) rfl tk (da_cons (de_tup (da_nil)) (da_nil))) (de_lst (da_cons (de_tup (da_nil)) (da_nil)))) (pw_or' (dt_isnotB (de_fnH h_is_set (hr.mono (by decide)) rfl tk (da_cons (de_tup (da_nil)) (da_cons (de_tup (da_nil)) (da_nil)))) (de_bl pe_bl)) (pw_or' (dt_ne hr.units (de_fnH h_others (hr.mono (by decide)) rfl tk (da_cons (de_tup (da_nil)) (da_cons (de_tup (da_nil)) (da_nil)))) (de_tup (da_nil))) (pw_or1 (dt_val (de_fnH h_is_set (hr.mono (by decide)) rfl tk (da_cons (de_tup (da_nil)) (da_cons (de_var (pv 2)) (da_nil)))))))))) (dss_one (ds_ret (de_bl pe_bl))) (dss_nil))
      (dss_cons (ds_set (i := 10) (de_slice true (de_var (pv 2)) do_none (do_some (de_add (de_int pe_int) (de_fnH h_draw (hr.mono (by decide)) rfl tk (da_cons (de_var (pv 1)) (da_cons (de_len rfl T.m_len (de_var (pv 2))) (da_nil))))))) sc_law.nd)
      (dss_one (ds_ret (de_and (de_eq hr.units (de_fnH h_all_sets (hr.mono (by decide)) rfl tk (da_cons (de_var (pv 10)) (da_nil))) (de_fnH h_sets (hr.mono (by decide)) rfl tk (da_cons (de_var (pv 10)) (da_nil)))) (de_one (de_eq hr.units (de_kw0H h_is_set (hr.mono (by decide)) rfl kb_is_set_value_outcomes tk (dk_cons (de_var (pv 2)) (dk_cons (de_var (pv 10)) (dk_nil)))) (de_eq hr.units (de_var (pv 10)) (de_var (pv 2)))))))))))))))))))
end
theorem all_mk {l : PySem.W.OpenLaw} {w : World} {K : PySem.W.Frag} {h : Heap} {mg : Str → Option Value} {fa : Addr} {f0 f1 f2 f3 f4 f5 f6 f7 f8 f9 f10 f11 : Addr} (X : K.In h) (G : h.Ns mainGlobals mg) (hfa : mg "law" = some (.ref fa))
    {od0 an0 od1 an1 od2 an2 od3 an3 od4 an4 od5 an5 od6 an6 od7 an7 od8 an8 od9 an9 od10 an10 od11 an11 : Option Addr} {sl0 sl1 sl2 sl3 sl4 sl5 sl6 sl7 sl8 sl9 sl10 sl11 : Array (Option Value)} {oc0 kV0 dc0 pm0 cd0 ct0 oc1 kV1 dc1 pm1 cd1 ct1 oc2 kV2 dc2 pm2 cd2 ct2 oc3 kV3 dc3 pm3 cd3 ct3 oc4 kV4 dc4 pm4 cd4 ct4 oc5 kV5 dc5 pm5 cd5 ct5 oc6 kV6 dc6 pm6 cd6 ct6 oc7 kV7 dc7 pm7 cd7 ct7 oc8 kV8 dc8 pm8 cd8 ct8 oc9 kV9 dc9 pm9 cd9 ct9 oc10 kV10 dc10 pm10 cd10 ct10 oc11 kV11 dc11 pm11 cd11 ct11 : Value}
    (a0 : PySem.W.nsIn K mainGlobals "is_part" = some (some (.ref f0))) (l0 : K.lookup f0 = some ⟨oc0, od0, .func (PySem.W.fnOf "is_part" "is_part" (defArgs s_is_part) (defBody s_is_part) (defScope s_is_part) .none kV0 dc0 pm0 an0 cd0 ct0), sl0⟩) (c0 : PySem.W.codeIn K cd0 "is_part" = true) (k0 : PySem.W.keepIn K (.ref f0) = true)
    (a1 : PySem.W.nsIn K mainGlobals "set_rank" = some (some (.ref f1))) (l1 : K.lookup f1 = some ⟨oc1, od1, .func (PySem.W.fnOf "set_rank" "set_rank" (defArgs s_set_rank) (defBody s_set_rank) (defScope s_set_rank) .none kV1 dc1 pm1 an1 cd1 ct1), sl1⟩) (c1 : PySem.W.codeIn K cd1 "set_rank" = true) (k1 : PySem.W.keepIn K (.ref f1) = true)
    (a2 : PySem.W.nsIn K mainGlobals "all_sets" = some (some (.ref f2))) (l2 : K.lookup f2 = some ⟨oc2, od2, .func (PySem.W.fnOf "all_sets" "all_sets" (defArgs s_all_sets) (defBody s_all_sets) (defScope s_all_sets) .none kV2 dc2 pm2 an2 cd2 ct2), sl2⟩) (c2 : PySem.W.codeIn K cd2 "all_sets" = true) (k2 : PySem.W.keepIn K (.ref f2) = true)
    (a3 : PySem.W.nsIn K mainGlobals "is_set" = some (some (.ref f3))) (l3 : K.lookup f3 = some ⟨oc3, od3, .func (PySem.W.fnOf "is_set" "is_set" (defArgs s_is_set) (defBody s_is_set) (defScope s_is_set) .none kV3 dc3 pm3 an3 cd3 ct3), sl3⟩) (c3 : PySem.W.codeIn K cd3 "is_set" = true) (k3 : PySem.W.keepIn K (.ref f3) = true)
    (a4 : PySem.W.nsIn K mainGlobals "others" = some (some (.ref f4))) (l4 : K.lookup f4 = some ⟨oc4, od4, .func (PySem.W.fnOf "others" "others" (defArgs s_others) (defBody s_others) (defScope s_others) .none kV4 dc4 pm4 an4 cd4 ct4), sl4⟩) (c4 : PySem.W.codeIn K cd4 "others" = true) (k4 : PySem.W.keepIn K (.ref f4) = true)
    (a5 : PySem.W.nsIn K mainGlobals "_law_start" = some (some (.ref f5))) (l5 : K.lookup f5 = some ⟨oc5, od5, .func (PySem.W.fnOf "_law_start" "_law_start" (defArgs s_start) (defBody s_start) (defScope s_start) .none kV5 dc5 pm5 an5 cd5 ct5), sl5⟩) (c5 : PySem.W.codeIn K cd5 "_law_start" = true) (k5 : PySem.W.keepIn K (.ref f5) = true)
    (a6 : PySem.W.nsIn K mainGlobals "_law_draw" = some (some (.ref f6))) (l6 : K.lookup f6 = some ⟨oc6, od6, .func (PySem.W.fnOf "_law_draw" "_law_draw" (defArgs s_draw) (defBody s_draw) (defScope s_draw) .none kV6 dc6 pm6 an6 cd6 ct6), sl6⟩) (c6 : PySem.W.codeIn K cd6 "_law_draw" = true) (k6 : PySem.W.keepIn K (.ref f6) = true)
    (a7 : PySem.W.nsIn K mainGlobals "_law_names" = some (some (.ref f7))) (l7 : K.lookup f7 = some ⟨oc7, od7, .func (PySem.W.fnOf "_law_names" "_law_names" (defArgs s_names) (defBody s_names) (defScope s_names) .none kV7 dc7 pm7 an7 cd7 ct7), sl7⟩) (c7 : PySem.W.codeIn K cd7 "_law_names" = true) (k7 : PySem.W.keepIn K (.ref f7) = true)
    (a8 : PySem.W.nsIn K mainGlobals "_law_sets" = some (some (.ref f8))) (l8 : K.lookup f8 = some ⟨oc8, od8, .func (PySem.W.fnOf "_law_sets" "_law_sets" (defArgs s_sets) (defBody s_sets) (defScope s_sets) .none kV8 dc8 pm8 an8 cd8 ct8), sl8⟩) (c8 : PySem.W.codeIn K cd8 "_law_sets" = true) (k8 : PySem.W.keepIn K (.ref f8) = true)
    (a9 : PySem.W.nsIn K mainGlobals "_law_any" = some (some (.ref f9))) (l9 : K.lookup f9 = some ⟨oc9, od9, .func (PySem.W.fnOf "_law_any" "_law_any" (defArgs s_any) (defBody s_any) (defScope s_any) .none kV9 dc9 pm9 an9 cd9 ct9), sl9⟩) (c9 : PySem.W.codeIn K cd9 "_law_any" = true) (k9 : PySem.W.keepIn K (.ref f9) = true)
    (a10 : PySem.W.nsIn K mainGlobals "_law_is_set" = some (some (.ref f10))) (l10 : K.lookup f10 = some ⟨oc10, od10, .func (PySem.W.fnOf "_law_is_set" "_law_is_set" (defArgs s_lis_set) (defBody s_lis_set) (defScope s_lis_set) .none kV10 dc10 pm10 an10 cd10 ct10), sl10⟩) (c10 : PySem.W.codeIn K cd10 "_law_is_set" = true) (k10 : PySem.W.keepIn K (.ref f10) = true)
    (a11 : PySem.W.nsIn K mainGlobals "law" = some (some (.ref f11))) (l11 : K.lookup f11 = some ⟨oc11, od11, .func (PySem.W.fnOf "law" "law" (defArgs s_law) (defBody s_law) (defScope s_law) .none kV11 dc11 pm11 an11 cd11 ct11), sl11⟩) (c11 : PySem.W.codeIn K cd11 "law" = true) (k11 : PySem.W.keepIn K (.ref f11) = true)
    (z_len : PySem.W.nsIn K mainGlobals "len" = some none)
    (z_abs : PySem.W.nsIn K mainGlobals "abs" = some none)
    (z_int : PySem.W.nsIn K mainGlobals "int" = some none)
    (z_list : PySem.W.nsIn K mainGlobals "list" = some none)
    (z_tuple : PySem.W.nsIn K mainGlobals "tuple" = some none)
    (z_range : PySem.W.nsIn K mainGlobals "range" = some none)
    (z_isinstance : PySem.W.nsIn K mainGlobals "isinstance" = some none)
    (z_bool : PySem.W.nsIn K mainGlobals "bool" = some none)
    (z_str : PySem.W.nsIn K mainGlobals "str" = some none)
    (z_sorted : PySem.W.nsIn K mainGlobals "sorted" = some none)
    : ∃ fd : FuncData, (∀ (s : Shared) (v : Value), BindsTo s fd ⟨[v], []⟩ [("_law_script", v)]) ∧ ∀ base : Heap, K.In base → base.Ns mainGlobals mg → FnOk l.prog w K mg base (L2.CX l.prog w) 5 fa fd ["_law_script"] (spOf K S_law) := by
  have e := hfa.symm.trans (PySem.W.mg_of X G a11)
  cases e
  have T : Txt mg := ⟨PySem.W.mg_none_of X G z_len, PySem.W.mg_none_of X G z_abs, PySem.W.mg_none_of X G z_int, PySem.W.mg_none_of X G z_list, PySem.W.mg_none_of X G z_tuple, PySem.W.mg_none_of X G z_range, PySem.W.mg_none_of X G z_isinstance, PySem.W.mg_none_of X G z_bool, PySem.W.mg_none_of X G z_str, PySem.W.mg_none_of X G z_sorted⟩
  have F0 := fun_mk (st := s_is_part) l0 c0 k0
  have b0 := F0.binds (ps := ["names", "value"]) fun _ _ _ _ _ _ us hl => match us, hl with | [_, _], _ => rfl
  have F1 := fun_mk (st := s_set_rank) l1 c1 k1
  have b1 := F1.binds (ps := ["names"]) fun _ _ _ _ _ _ us hl => match us, hl with | [_], _ => rfl
  have F2 := fun_mk (st := s_all_sets) l2 c2 k2
  have b2 := F2.binds (ps := ["outcomes"]) fun _ _ _ _ _ _ us hl => match us, hl with | [_], _ => rfl
  have F3 := fun_mk (st := s_is_set) l3 c3 k3
  have b3 := F3.binds (ps := ["outcomes", "value"]) fun _ _ _ _ _ _ us hl => match us, hl with | [_, _], _ => rfl
  have F4 := fun_mk (st := s_others) l4 c4 k4
  have b4 := F4.binds (ps := ["outcomes", "wanted"]) fun _ _ _ _ _ _ us hl => match us, hl with | [_, _], _ => rfl
  have F5 := fun_mk (st := s_start) l5 c5 k5
  have b5 := F5.binds (ps := ["_law_script"]) fun _ _ _ _ _ _ us hl => match us, hl with | [_], _ => rfl
  have F6 := fun_mk (st := s_draw) l6 c6 k6
  have b6 := F6.binds (ps := ["_law_state", "_law_size"]) fun _ _ _ _ _ _ us hl => match us, hl with | [_, _], _ => rfl
  have F7 := fun_mk (st := s_names) l7 c7 k7
  have b7 := F7.binds (ps := ["_law_state", "_law_count"]) fun _ _ _ _ _ _ us hl => match us, hl with | [_, _], _ => rfl
  have F8 := fun_mk (st := s_sets) l8 c8 k8
  have b8 := F8.binds (ps := ["_law_names_here"]) fun _ _ _ _ _ _ us hl => match us, hl with | [_], _ => rfl
  have F9 := fun_mk (st := s_any) l9 c9 k9
  have b9 := F9.binds (ps := ["_law_state", "_law_names_here"]) fun _ _ _ _ _ _ us hl => match us, hl with | [_, _], _ => rfl
  have F10 := fun_mk (st := s_lis_set) l10 c10 k10
  have b10 := F10.binds (ps := ["_law_names_here", "_law_thing"]) fun _ _ _ _ _ _ us hl => match us, hl with | [_, _], _ => rfl
  have F11 := fun_mk (st := s_law) l11 c11 k11
  have b11 := F11.binds (ps := ["_law_script"]) fun _ _ _ _ _ _ us hl => match us, hl with | [_], _ => rfl
  have h_is_part : ∀ base, Has l.prog w K mg base "is_part" 1 ["names", "value"] S_is_part (fun _ => True) := fun base => has_is_part T  F0 (PySem.W.mg_of X G a0) b0 trivial
  have h_set_rank : ∀ base, Has l.prog w K mg base "set_rank" 1 ["names"] S_set_rank (fun _ => True) := fun base => has_set_rank T  F1 (PySem.W.mg_of X G a1) b1 trivial
  have h_all_sets : ∀ base, Has l.prog w K mg base "all_sets" 4 ["outcomes"] S_all_sets (kb_all_sets K) := fun base => has_all_sets T (h_set_rank base) F2 (PySem.W.mg_of X G a2) b2 (fun s us ws _ h1 h2 => (match us, ws, h1, h2 with | [], [_], _, _ => .of_eq rfl))
  have h_is_set : ∀ base, Has l.prog w K mg base "is_set" 2 ["outcomes", "value"] S_is_set (kb_is_set K) := fun base => has_is_set T (h_is_part base) F3 (PySem.W.mg_of X G a3) b3 (fun s us ws _ h1 h2 => (match us, ws, h1, h2 with | [], [_, _], _, _ => .of_eq rfl))
  have h_others : ∀ base, Has l.prog w K mg base "others" 1 ["outcomes", "wanted"] S_others (kb_others K) := fun base => has_others T  F4 (PySem.W.mg_of X G a4) b4 (fun s us ws _ h1 h2 => (match us, ws, h1, h2 with | [], [_, _], _, _ => .of_eq rfl))
  have h_start : ∀ base, Has l.prog w K mg base "_law_start" 1 ["_law_script"] S_start (fun _ => True) := fun base => has_start T  F5 (PySem.W.mg_of X G a5) b5 trivial
  have h_draw : ∀ base, Has l.prog w K mg base "_law_draw" 1 ["_law_state", "_law_size"] S_draw (fun _ => True) := fun base => has_draw T  F6 (PySem.W.mg_of X G a6) b6 trivial
  have h_names : ∀ base, Has l.prog w K mg base "_law_names" 2 ["_law_state", "_law_count"] S_names (fun _ => True) := fun base => has_names T (h_draw base) F7 (PySem.W.mg_of X G a7) b7 trivial
  have h_sets : ∀ base, Has l.prog w K mg base "_law_sets" 1 ["_law_names_here"] S_sets (fun _ => True) := fun base => has_sets T  F8 (PySem.W.mg_of X G a8) b8 trivial
  have h_any : ∀ base, Has l.prog w K mg base "_law_any" 2 ["_law_state", "_law_names_here"] S_any (fun _ => True) := fun base => has_any T (h_draw base) F9 (PySem.W.mg_of X G a9) b9 trivial
  have h_lis_set : ∀ base, Has l.prog w K mg base "_law_is_set" 1 ["_law_names_here", "_law_thing"] S_lis_set (fun _ => True) := fun base => has_lis_set T  F10 (PySem.W.mg_of X G a10) b10 trivial
  exact ⟨PySem.W.fnOf "law" "law" (defArgs s_law) (defBody s_law) (defScope s_law) .none kV11 dc11 pm11 an11 cd11 ct11, fun s v => .of_eq rfl, fun base _ _ => ok_law T (h_any base) (h_draw base) (h_lis_set base) (h_names base) (h_sets base) (h_start base) (h_all_sets base) (h_is_set base) (h_others base) F11⟩
end K20
open PySem PySem.W PyProof.Rows
set_option maxRecDepth 100000 in
set_option maxHeartbeats 0 in
theorem PySem.Challenge.cw_twochoosers_k20_sets_holds : PySem.Challenge.rw_twochoosers_k20_sets.Holds := by
  w_on; o_law; k_head; (case hw => w_witness2)
  k_fill
  refine DV.walk_deep (k := 5) (x := "_law_script") (S := DV.S_law) (l := PySem.Challenge.rw_twochoosers_k20_sets) rfl (by decide) rfl (fun w h Y => PySem.W.kIn_of Y) ?F (fun ns hl => ⟨ns, rfl, hl, rfl, fun _ => rfl⟩)
  case F =>
    intro w mg fa h KX G hmg
    refine' K20.all_mk KX G hmg ?a0 ?l0 ?c0 ?k0 ?a1 ?l1 ?c1 ?k1 ?a2 ?l2 ?c2 ?k2 ?a3 ?l3 ?c3 ?k3 ?a4 ?l4 ?c4 ?k4 ?a5 ?l5 ?c5 ?k5 ?a6 ?l6 ?c6 ?k6 ?a7 ?l7 ?c7 ?k7 ?a8 ?l8 ?c8 ?k8 ?a9 ?l9 ?c9 ?k9 ?a10 ?l10 ?c10 ?k10 ?a11 ?l11 ?c11 ?k11 ?z_len ?z_abs ?z_int ?z_list ?z_tuple ?z_range ?z_isinstance ?z_bool ?z_str ?z_sorted
    (case a0 => k_is); (case l0 => k_is); (case c0 => k_is); (case k0 => k_is); (case a1 => k_is); (case l1 => k_is)
    (case c1 => k_is); (case k1 => k_is); (case a2 => k_is); (case l2 => k_is); (case c2 => k_is); (case k2 => k_is)
    (case a3 => k_is); (case l3 => k_is); (case c3 => k_is); (case k3 => k_is); (case a4 => k_is); (case l4 => k_is)
    (case c4 => k_is); (case k4 => k_is); (case a5 => k_is); (case l5 => k_is); (case c5 => k_is); (case k5 => k_is)
    (case a6 => k_is); (case l6 => k_is); (case c6 => k_is); (case k6 => k_is); (case a7 => k_is); (case l7 => k_is)
    (case c7 => k_is); (case k7 => k_is); (case a8 => k_is); (case l8 => k_is); (case c8 => k_is); (case k8 => k_is)
    (case a9 => k_is); (case l9 => k_is); (case c9 => k_is); (case k9 => k_is); (case a10 => k_is); (case l10 => k_is)
    (case c10 => k_is); (case k10 => k_is); (case a11 => k_is); (case l11 => k_is); (case c11 => k_is); (case k11 => k_is)
    (case z_len => k_is); (case z_abs => k_is); (case z_int => k_is); (case z_list => k_is); (case z_tuple => k_is); (case z_range => k_is)
    (case z_isinstance => k_is); (case z_bool => k_is); (case z_str => k_is); (case z_sorted => k_is)
