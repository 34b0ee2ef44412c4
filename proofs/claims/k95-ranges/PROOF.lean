import PyProof.Rows.All
import Wide.All
import OpenK.AllK
import Wide.FinOn
import HandS.ForMost
import HandS.Deep
import HandS.TupAny
import HandS.Zip
import HandS.Wide
import HandS.Conv
import HandS.Defaults
import HandS.IsInst
import HandS.NoneIn
import KE.KDictWalk
import KE.GoesZip
import KE.GoesMore
import KE.KStateDown
import HandS.HeadEnd
import HandS.HeadHook1
import HandS.HeadHook2
import HandS.Head0
import HandS.Head1
import HandS.Head2
import PySem.Challenge.RW_termwide_k95_whole_ranges_by_corners
set_option Elab.async false
set_option linter.all false
set_option maxRecDepth 100000
set_option autoImplicit false
/-! ZBase: a logic over plain data. Slots hold data (Da), a store holds what may change; a def's promise speaks of both alone. -/
namespace Z
open PySem PySem.Spec PyProof.Rows L2

abbrev Frag := PySem.W.Frag

/-- plain data; obj a: the object at a; wls, wtp: a list, a tuple that is read alone (the script, one of the written part); ty: a built-in type -/
inductive Da where
  | non | bl (b : Bool) | int (i : Int) | str (x : Str) | lst (xs : List Da) | tup (xs : List Da) | obj (a : Addr) | wls (xs : List Da) | wtp (xs : List Da) | ty (n : String)

/-! ### what a value denotes -/
mutual
inductive Dv (K : Frag) (H : Hp) : V → Da → Prop
  | non : Dv K H .non .non
  | bl (b : Bool) : Dv K H (.bl b) (.bl b)
  | int (i : Int) : Dv K H (.int i) (.int i)
  | str (x : Str) : Dv K H (.str x) (.str x)
  | obj (a : Addr) : Dv K H (.ref a) (.obj a)
  | lst {a : Addr} {xs : List V} {ds : List Da} : H a = some (.lst xs) → DvAll K H xs ds → Dv K H (.ref a) (.lst ds)
  | wls {a : Addr} {xs : List V} {ds : List Da} : SqL K H a xs → DvAll K H xs ds → Dv K H (.ref a) (.wls ds)
  | tup {a : Addr} {xs : List V} {ds : List Da} : H a = some (.tup xs) → DvAll K H xs ds → Dv K H (.ref a) (.tup ds)
  | wtp {a : Addr} {xs : List V} {ds : List Da} : SqT K H a xs → DvAll K H xs ds → Dv K H (.ref a) (.wtp ds)
  | ty (n : String) : Dv K H (.ty n) (.ty n)
inductive DvAll (K : Frag) (H : Hp) : List V → List Da → Prop
  | nil : DvAll K H [] []
  | cons {v : V} {vs : List V} {d : Da} {ds : List Da} : Dv K H v d → DvAll K H vs ds → DvAll K H (v :: vs) (d :: ds)
end

section
variable {K : Frag} {H H' H1 H2 H3 : Hp} {v : V} {d : Da} {vs : List V} {ds : List Da}
theorem seqT (e : Same H H') {a : Addr} {xs : List V} (h : SqT K H a xs) : SqT K H' a xs := by
  rcases h with (h | ⟨o, h⟩) | h
  · exact .inl (.inl (e _ _ h))
  · exact .inl (.inr ⟨o, e _ _ h⟩)
  · exact .inr h
mutual
theorem Dv.mono (e : Same H H') : ∀ {d : Da} {v : V}, Dv K H v d → Dv K H' v d
  | .non, _, h => by cases h; exact .non
  | .bl b, _, h => by cases h; exact .bl b
  | .int i, _, h => by cases h; exact .int i
  | .str x, _, h => by cases h; exact .str x
  | .obj a, _, h => by cases h; exact .obj a
  | .lst ds, _, h => by
    cases h with
    | lst s r => exact .lst (e _ _ s) (DvAll.mono e r)
  | .wls ds, _, h => by
    cases h with
    | wls s r => exact .wls (e.seq s) (DvAll.mono e r)
  | .tup ds, _, h => by
    cases h with
    | tup s r => exact .tup (e _ _ s) (DvAll.mono e r)
  | .wtp ds, _, h => by
    cases h with
    | wtp s r => exact .wtp (seqT e s) (DvAll.mono e r)
  | .ty n, _, h => by cases h; exact .ty n
theorem DvAll.mono (e : Same H H') : ∀ {ds : List Da} {vs : List V}, DvAll K H vs ds → DvAll K H' vs ds
  | [], _, h => by cases h; exact .nil
  | d :: ds, _, h => by
    cases h with
    | cons a b => exact .cons (Dv.mono e a) (DvAll.mono e b)
end
theorem DvAll.length : ∀ {ds : List Da} {vs : List V}, DvAll K H vs ds → vs.length = ds.length
  | [], _, h => by cases h; rfl
  | d :: ds, _, h => by
    cases h with
    | cons a b => simp [DvAll.length b]
theorem DvAll.get : ∀ {ds : List Da} {vs : List V} {i : Nat} {v : V}, DvAll K H vs ds → vs[i]? = some v → ∃ d, ds[i]? = some d ∧ Dv K H v d
  | [], _, _, _, h, e => by cases h; simp at e
  | d :: ds, _, 0, v, h, e => by
    cases h with
    | cons a b => simp at e; subst e; exact ⟨d, rfl, a⟩
  | d :: ds, _, i + 1, v, h, e => by
    cases h with
    | cons a b =>
      obtain ⟨d', e1, r⟩ := DvAll.get (i := i) b (by simpa using e)
      exact ⟨d', by simpa using e1, r⟩
theorem DvAll.getd {ds : List Da} {vs : List V} {i : Nat} {d : Da} (h : DvAll K H vs ds) (e : ds[i]? = some d) : ∃ v, vs[i]? = some v ∧ Dv K H v d := by
  have hl := h.length
  have hi : i < ds.length := (List.getElem?_eq_some_iff.mp e).1
  have hv : vs[i]? = some vs[i] := List.getElem?_eq_getElem (by omega)
  obtain ⟨d', e1, r⟩ := h.get hv
  rw [e] at e1
  cases e1
  exact ⟨_, hv, r⟩
theorem DvAll.append : ∀ {ds es : List Da} {vs ws : List V}, DvAll K H vs ds → DvAll K H ws es → DvAll K H (vs ++ ws) (ds ++ es)
  | [], _, _, _, h, g => by cases h; exact g
  | d :: ds, _, _, _, h, g => by
    cases h with
    | cons a b => exact .cons a (DvAll.append b g)
theorem DvAll.one (h : Dv K H v d) : DvAll K H [v] [d] := .cons h .nil
theorem DvAll.set : ∀ {ds : List Da} {vs : List V} {i : Nat}, DvAll K H vs ds → Dv K H v d → DvAll K H (vs.set i v) (ds.set i d)
  | [], _, _, h, g => by cases h; exact .nil
  | d :: ds, _, 0, h, g => by
    cases h with
    | cons a b => exact .cons g b
  | d :: ds, _, i + 1, h, g => by
    cases h with
    | cons a b => exact .cons a (DvAll.set b g)
theorem DvAll.drop : ∀ {ds : List Da} {vs : List V} (n : Nat), DvAll K H vs ds → DvAll K H (vs.drop n) (ds.drop n)
  | _, _, 0, h => h
  | [], _, n + 1, h => by cases h; exact .nil
  | d :: ds, _, n + 1, h => by
    cases h with
    | cons a b => exact DvAll.drop n b
theorem DvAll.take : ∀ {ds : List Da} {vs : List V} (n : Nat), DvAll K H vs ds → DvAll K H (vs.take n) (ds.take n)
  | _, _, 0, h => .nil
  | [], _, n + 1, h => by cases h; exact .nil
  | d :: ds, _, n + 1, h => by
    cases h with
    | cons a b => exact .cons a (DvAll.take n b)
theorem DvAll.rep (h : DvAll K H vs ds) : ∀ k : Nat, DvAll K H (List.replicate k vs).flatten (List.replicate k ds).flatten
  | 0 => .nil
  | k + 1 => by
    rw [List.replicate_succ, List.replicate_succ, List.flatten_cons, List.flatten_cons]
    exact h.append (DvAll.rep h k)
theorem DvAll.ints : ∀ {is : List Int} {vs : List V}, DvAll K H vs (is.map .int) → vs = is.map V.int
  | [], _, h => by cases h; rfl
  | i :: is, _, h => by
    cases h with
    | cons a b => cases a; rw [DvAll.ints b]; rfl
theorem DvAll.bls : ∀ {is : List Bool} {vs : List V}, DvAll K H vs (is.map .bl) → vs = is.map V.bl
  | [], _, h => by cases h; rfl
  | i :: is, _, h => by
    cases h with
    | cons a b => cases a; rw [DvAll.bls b]; rfl
theorem dvAll_ints : ∀ is : List Int, DvAll K H (is.map V.int) (is.map .int)
  | [] => .nil
  | i :: is => .cons (.int i) (dvAll_ints is)

/-! ### what may change: the store -/
inductive Ob where
  | lst (ds : List Da)
  | ins (C : Addr) (fs : List (Str × Da))
  | dT (kvs : List (List Key × Da))
  | dK (kvs : List (Key × Da))
abbrev Sto := Addr → Option Ob
def updS (Θ : Sto) (a : Addr) (o : Ob) : Sto := fun b => if b = a then some o else Θ b
def delS (Θ : Sto) (a : Addr) : Sto := fun b => if b = a then none else Θ b
theorem updS_same {Θ : Sto} {a : Addr} {o : Ob} : updS Θ a o a = some o := by unfold updS; rw [if_pos rfl]
theorem updS_ne {Θ : Sto} {a b : Addr} {o : Ob} (h : b ≠ a) : updS Θ a o b = Θ b := by unfold updS; rw [if_neg h]
theorem delS_ne {Θ : Sto} {a b : Addr} (h : b ≠ a) : delS Θ a b = Θ b := by unfold delS; rw [if_neg h]
theorem delS_same {Θ : Sto} {a : Addr} : delS Θ a a = none := by unfold delS; rw [if_pos rfl]
theorem updS_updS {Θ : Sto} {a : Addr} {o u : Ob} : updS (updS Θ a o) a u = updS Θ a u := by
  funext b; unfold updS; split <;> rfl
theorem delS_updS {Θ : Sto} {a : Addr} {o : Ob} (h : Θ a = none) : delS (updS Θ a o) a = Θ := by
  funext b
  unfold delS updS
  split
  · rename_i e; rw [e, h]
  · rfl
theorem updS_self {Θ : Sto} {a : Addr} {o : Ob} (h : Θ a = some o) : updS Θ a o = Θ := by
  funext b; unfold updS; split
  · rename_i e; rw [e, h]
  · rfl
theorem updS_comm {Θ : Sto} {a b : Addr} {o u : Ob} (h : a ≠ b) : updS (updS Θ a o) b u = updS (updS Θ b u) a o := by
  funext c
  unfold updS
  by_cases h1 : c = b
  · have h2 : c ≠ a := fun q => h (q ▸ h1)
    rw [if_pos h1, if_neg h2, if_pos h1]
  · rw [if_neg h1, if_neg h1]
theorem delS_updS_comm {Θ : Sto} {a b : Addr} {o : Ob} (h : a ≠ b) : delS (updS Θ a o) b = updS (delS Θ b) a o := by
  funext c
  show (if c = b then none else (if c = a then some o else Θ c)) = (if c = a then some o else (if c = b then none else Θ c))
  by_cases h1 : c = b
  · have h2 : c ≠ a := fun q => h (q ▸ h1)
    rw [if_pos h1, if_neg h2, if_pos h1]
  · rw [if_neg h1, if_neg h1]
theorem delS_none {Θ : Sto} {a : Addr} (h : Θ a = none) : delS Θ a = Θ := by
  funext b; unfold delS; split
  · rename_i e; rw [e, h]
  · rfl
def LeS (Θ Θ' : Sto) : Prop := ∀ a o, Θ a = some o → Θ' a = some o
theorem LeS.refl (Θ : Sto) : LeS Θ Θ := fun _ _ h => h
theorem LeS.upd {Θ : Sto} {a : Addr} {o : Ob} (h : Θ a = none) : LeS Θ (updS Θ a o) := fun b u e => by
  by_cases q : b = a
  · subst q; rw [h] at e; cases e
  · rw [updS_ne q]; exact e
theorem LeS.trans {Θ Θ1 Θ2 : Sto} (a : LeS Θ Θ1) (b : LeS Θ1 Θ2) : LeS Θ Θ2 := fun c o h => b c o (a c o h)
theorem LeS.del {Θ : Sto} {a : Addr} : LeS (delS Θ a) Θ := fun b u e => by
  by_cases q : b = a
  · subst q; rw [delS_same] at e; cases e
  · rw [delS_ne q] at e; exact e
theorem sto_ne {Θ : Sto} {a b : Addr} {o : Ob} (h : Θ a = some o) (h' : Θ b = none) : a ≠ b := fun q => by rw [q, h'] at h; cases h

def PairD {κ : Type} (K : Frag) (H : Hp) (p : κ × V) (q : κ × Da) : Prop := p.1 = q.1 ∧ Dv K H p.2 q.2
def PAll {κ : Type} (K : Frag) (H : Hp) (fs : List (κ × V)) (gs : List (κ × Da)) : Prop := fs.map (·.1) = gs.map (·.1) ∧ DvAll K H (fs.map (·.2)) (gs.map (·.2))
theorem PAll.mono {κ : Type} {fs : List (κ × V)} {gs : List (κ × Da)} (e : Same H H') (h : PAll K H fs gs) : PAll K H' fs gs := ⟨h.1, h.2.mono e⟩
def ObOk (K : Frag) (H H1 : Hp) (a : Addr) : Ob → Prop
  | .lst ds => ∃ vs, H1 a = some (.lst vs) ∧ DvAll K H vs ds
  | .ins C fs => ∃ dx gs, H1 a = some (.ins C dx gs) ∧ PAll K H gs fs
  | .dT kvs => ∃ vs, H1 a = some (.dT vs) ∧ PAll K H vs kvs
  | .dK kvs => ∃ vs, H1 a = some (.dK vs) ∧ PAll K H vs kvs
theorem ObOk.has {a : Addr} {o : Ob} (h : ObOk K H H1 a o) : ∃ u, H1 a = some u := by
  cases o with
  | lst ds => obtain ⟨vs, e, _⟩ := h; exact ⟨_, e⟩
  | ins C fs => obtain ⟨_, _, e, _⟩ := h; exact ⟨_, e⟩
  | dT kvs => obtain ⟨_, e, _⟩ := h; exact ⟨_, e⟩
  | dK kvs => obtain ⟨_, e, _⟩ := h; exact ⟨_, e⟩
theorem ObOk.mono {a : Addr} {o : Ob} (e : Same H H') (e1 : ∀ u, H1 a = some u → H2 a = some u) (h : ObOk K H H1 a o) : ObOk K H' H2 a o := by
  cases o with
  | lst ds => obtain ⟨vs, q, r⟩ := h; exact ⟨vs, e1 _ q, r.mono e⟩
  | ins C fs => obtain ⟨dx, gs, q, r⟩ := h; exact ⟨dx, gs, e1 _ q, r.mono e⟩
  | dT kvs => obtain ⟨vs, q, r⟩ := h; exact ⟨vs, e1 _ q, r.mono e⟩
  | dK kvs => obtain ⟨vs, q, r⟩ := h; exact ⟨vs, e1 _ q, r.mono e⟩
end

abbrev Gam := List (Option Da)
/-- H: what is known for good; H1: the heap as it is -/
structure Rep (K : Frag) (σ : L2.St) (H H1 : Hp) (Γ : Gam) (Θ : Sto) : Prop where
  ex : Same H H1
  len : Γ.length = σ.length
  env : ∀ (i : Nat) (d : Da), Γ[i]? = some (some d) → ∃ v, σ[i]? = some (some v) ∧ Dv K H v d
  sto : ∀ a o, Θ a = some o → H a = none ∧ ObOk K H H1 a o

/-- from (Θ, H, H1) to (Θ', H', H2) -/
structure Fr (Θ : Sto) (H H1 : Hp) (Θ' : Sto) (H' H2 : Hp) : Prop where
  ke : Same H H'
  fr : ∀ b o, Θ b = none → H1 b = some o → H2 b = some o
  th : ∀ b o, H1 b = some o → ∃ o', H2 b = some o'
  nw : ∀ b, (H' b ≠ none ∨ Θ' b ≠ none) → H b ≠ none ∨ Θ b ≠ none ∨ H1 b = none

section
variable {K : Frag} {σ σ' : L2.St} {H H' H'' H1 H2 H3 : Hp} {Γ Γ' : Gam} {Θ Θ' Θ'' : Sto}
theorem Fr.refl : Fr Θ H H1 Θ H H1 := ⟨Same.refl _, fun _ _ _ h => h, fun _ o h => ⟨o, h⟩, fun b h => by
  rcases h with h | h
  · exact .inl h
  · exact .inr (.inl h)⟩
theorem Fr.trans (a : Fr Θ H H1 Θ' H' H2) (R : Rep K σ H' H2 Γ Θ') (b : Fr Θ' H' H2 Θ'' H'' H3) : Fr Θ H H1 Θ'' H'' H3 where
  ke := a.ke.trans b.ke
  fr := fun c o h e => by
    have e2 := a.fr c o h e
    by_cases q : Θ' c = none
    · exact b.fr c o q e2
    · have n : H' c = none := by
        cases z : Θ' c with
        | none => exact absurd z q
        | some u => exact (R.sto c u z).1
      rcases a.nw c (.inr q) with r | r | r
      · cases z : H c with
        | none => exact absurd z r
        | some u => rw [a.ke c u z] at n; cases n
      · exact absurd h r
      · rw [r] at e; cases e
  th := fun c o e => by
    obtain ⟨o1, e1⟩ := a.th c o e
    exact b.th c o1 e1
  nw := fun c h => by
    rcases b.nw c h with r | r | r
    · exact a.nw c (.inl r)
    · exact a.nw c (.inr r)
    · refine .inr (.inr ?_)
      cases z : H1 c with
      | none => rfl
      | some o =>
        obtain ⟨o', e'⟩ := a.th c o z
        rw [r] at e'; cases e'
theorem Rep.slots (R : Rep K σ H H1 Γ Θ) (hl : Γ'.length = σ'.length) (he : ∀ (i : Nat) (d : Da), Γ'[i]? = some (some d) → ∃ v, σ'[i]? = some (some v) ∧ Dv K H v d) : Rep K σ' H H1 Γ' Θ := ⟨R.ex, hl, he, R.sto⟩
theorem Rep.set {i : Nat} {v : V} {d : Da} (R : Rep K σ H H1 Γ Θ) (h : Dv K H v d) : Rep K (σ.set i (some v)) H H1 (Γ.set i (some d)) Θ := by
  refine R.slots (by rw [List.length_set, List.length_set]; exact R.len) fun j e hj => ?_
  by_cases q : i = j
  · subst q
    have hi : i < Γ.length := by
      have := (List.getElem?_eq_some_iff.mp hj).1
      rw [List.length_set] at this; exact this
    rw [List.getElem?_set_self hi] at hj
    cases hj
    exact ⟨v, List.getElem?_set_self (by rw [← R.len]; exact hi), h⟩
  · rw [List.getElem?_set_ne q] at hj ⊢
    exact R.env j e hj
theorem Rep.le (R : Rep K σ H H1 Γ Θ) (h : LeS Θ' Θ) : Rep K σ H H1 Γ Θ' := ⟨R.ex, R.len, R.env, fun a o e => R.sto a o (h a o e)⟩
theorem Fr.le (f : Fr Θ H H1 Θ' H' H2) (h : LeS Θ'' Θ') : Fr Θ H H1 Θ'' H' H2 := ⟨f.ke, f.fr, f.th, fun b q => f.nw b (q.imp id fun z => by
  cases e : Θ'' b with
  | none => exact absurd e z
  | some o => rw [h b o e]; simp)⟩
theorem Rep.no (R : Rep K σ H H1 Γ Θ) {p : Addr} (hp : H1 p = none) : H p = none ∧ Θ p = none := by
  refine ⟨R.ex.free hp, ?_⟩
  cases e : Θ p with
  | none => rfl
  | some o =>
    obtain ⟨u, q⟩ := (R.sto p o e).2.has
    rw [hp] at q; cases q
theorem same_upd {H : Hp} {p : Addr} {o : HO} (h : H p = none) : Same H (upd H p o) := fun b x e => by
  rw [upd_ne (ne_of_none e h)]
  exact e
theorem same_updB {H H1 : Hp} {p : Addr} {o : HO} (e : Same H H1) (h : H p = none) : Same H (upd H1 p o) := fun b x q => by
  rw [upd_ne (ne_of_none q h)]
  exact e b x q
/-- a new thing is known for good -/
theorem Rep.new (R : Rep K σ H H1 Γ Θ) {p : Addr} {o : HO} (hp : H1 p = none) : Rep K σ (upd H p o) (upd H1 p o) Γ Θ := by
  obtain ⟨n1, n2⟩ := R.no hp
  have s1 : Same H (upd H p o) := same_upd n1
  refine ⟨fun b u e => ?_, R.len, fun i d e => ?_, fun a u e => ?_⟩
  · by_cases q : b = p
    · subst q; rw [upd_same] at e ⊢; exact e
    · rw [upd_ne q] at e ⊢; exact R.ex b u e
  · obtain ⟨v, hv, r⟩ := R.env i d e
    exact ⟨v, hv, r.mono s1⟩
  · have q : a ≠ p := sto_ne e n2
    obtain ⟨h1, h2⟩ := R.sto a u e
    exact ⟨by rw [upd_ne q]; exact h1, h2.mono s1 fun z hz => by rw [upd_ne q]; exact hz⟩
theorem Fr.new {p : Addr} {o : HO} (hp : H1 p = none) (h0 : H p = none) : Fr Θ H H1 Θ (upd H p o) (upd H1 p o) where
  ke := same_upd h0
  fr := fun b u _ e => by rw [upd_ne (ne_of_none e hp)]; exact e
  th := fun b u e => ⟨u, by rw [upd_ne (ne_of_none e hp)]; exact e⟩
  nw := fun b h => by
    by_cases q : b = p
    · subst q; exact .inr (.inr hp)
    · rw [upd_ne q] at h
      rcases h with h | h
      · exact .inl h
      · exact .inr (.inl h)
/-- a new thing that may change -/
theorem Rep.newM (R : Rep K σ H H1 Γ Θ) {p : Addr} {o : HO} {u : Ob} (hp : H1 p = none) (ho : ObOk K H (upd H1 p o) p u) : Rep K σ H (upd H1 p o) Γ (updS Θ p u) := by
  obtain ⟨n1, n2⟩ := R.no hp
  refine ⟨same_updB R.ex n1, R.len, R.env, fun a z e => ?_⟩
  by_cases q : a = p
  · subst q; rw [updS_same] at e; cases e; exact ⟨n1, ho⟩
  · rw [updS_ne q] at e
    obtain ⟨h1, h2⟩ := R.sto a z e
    exact ⟨h1, h2.mono (Same.refl _) fun y hy => by rw [upd_ne q]; exact hy⟩
theorem Fr.newM {p : Addr} {o : HO} {u : Ob} (hp : H1 p = none) : Fr Θ H H1 (updS Θ p u) H (upd H1 p o) where
  ke := Same.refl _
  fr := fun b x _ e => by rw [upd_ne (ne_of_none e hp)]; exact e
  th := fun b x e => ⟨x, by rw [upd_ne (ne_of_none e hp)]; exact e⟩
  nw := fun b h => by
    by_cases q : b = p
    · subst q; exact .inr (.inr hp)
    · rw [updS_ne q] at h
      rcases h with h | h
      · exact .inl h
      · exact .inr (.inl h)
/-- a thing of the store is changed -/
theorem Rep.chg (R : Rep K σ H H1 Γ Θ) {p : Addr} {o : HO} {u w : Ob} (hp : Θ p = some w) (ho : ObOk K H (upd H1 p o) p u) : Rep K σ H (upd H1 p o) Γ (updS Θ p u) := by
  obtain ⟨n1, _⟩ := R.sto p w hp
  refine ⟨same_updB R.ex n1, R.len, R.env, fun a z e => ?_⟩
  by_cases q : a = p
  · subst q; rw [updS_same] at e; cases e; exact ⟨n1, ho⟩
  · rw [updS_ne q] at e
    obtain ⟨h1, h2⟩ := R.sto a z e
    exact ⟨h1, h2.mono (Same.refl _) fun y hy => by rw [upd_ne q]; exact hy⟩
theorem Fr.chg {p : Addr} {o : HO} {u w : Ob} (hp : Θ p = some w) : Fr Θ H H1 (updS Θ p u) H (upd H1 p o) where
  ke := Same.refl _
  fr := fun b x h e => by
    have q : b ≠ p := fun q => by rw [q, hp] at h; cases h
    rw [upd_ne q]; exact e
  th := fun b x e => by
    by_cases q : b = p
    · subst q; exact ⟨o, upd_same⟩
    · exact ⟨x, by rw [upd_ne q]; exact e⟩
  nw := fun b h => by
    by_cases q : b = p
    · subst q; exact .inr (.inl (by rw [hp]; simp))
    · rw [updS_ne q] at h
      rcases h with h | h
      · exact .inl h
      · exact .inr (.inl h)
/-- a list of the store changes no more: it is known for good -/
theorem Rep.frz (R : Rep K σ H H1 Γ Θ) {p : Addr} {ds : List Da} (hp : Θ p = some (.lst ds)) : ∃ vs, H1 p = some (.lst vs) ∧ Rep K σ (upd H p (.lst vs)) H1 Γ (delS Θ p) ∧ Fr Θ H H1 (delS Θ p) (upd H p (.lst vs)) H1 ∧ Dv K (upd H p (.lst vs)) (.ref p) (.lst ds) := by
  obtain ⟨n1, vs, e, r⟩ := R.sto p _ hp
  have s1 : Same H (upd H p (.lst vs)) := same_upd n1
  refine ⟨vs, e, ⟨fun b u q => ?_, R.len, fun i d q => ?_, fun a u q => ?_⟩, ⟨s1, fun _ _ _ h => h, fun b o h => ⟨o, h⟩, fun b h => ?_⟩, .lst upd_same (r.mono s1)⟩
  · by_cases z : b = p
    · subst z; rw [upd_same] at q; cases q; exact e
    · rw [upd_ne z] at q; exact R.ex b u q
  · obtain ⟨v, hv, r⟩ := R.env i d q
    exact ⟨v, hv, r.mono s1⟩
  · by_cases z : a = p
    · subst z; rw [delS_same] at q; cases q
    · rw [delS_ne z] at q
      obtain ⟨h1, h2⟩ := R.sto a u q
      exact ⟨by rw [upd_ne z]; exact h1, h2.mono s1 fun _ y => y⟩
  · by_cases z : b = p
    · subst z; exact .inr (.inl (by rw [hp]; simp))
    · rw [upd_ne z, delS_ne z] at h
      rcases h with h | h
      · exact .inl h
      · exact .inr (.inl h)
end
end Z
/-! ZEval: the judgements over data (ev expressions, ea arguments, et tests, eg targets, ex statements) and their rules for expressions. -/
namespace Z
open PySem PySem.Spec PyProof.Rows L2

/-- what stands still in a def's body -/
structure Stat where
  P : Program
  w : World
  K : Frag
  mg : Str → Option Value
  base : Heap
  lv : Nat
  N : List Str
  sc : Scope
  fn : Str → Bool

structure Ok (S : Stat) (X : Cx) : Prop where
  P : X.prog = S.P
  w : X.w = S.w
  K : X.K = S.K
  mg : X.mg = S.mg
  base : X.base = S.base
  room : Room S.lv X.A
  gd : X.A.guards = some []
  N : X.N = S.N
  sc : X.env.scope = S.sc
  fn : X.fn = S.fn
  calm : X.calm = true
  pas : PassesOwn (model X.prog X.w) X.A X.env X.xe

def wE (S : Stat) (e : Expr) : TE := fun σ H Q => ∀ X, Ok S X → ∀ pins s, Inv X pins σ H s → wpAny (model X.prog X.w) X.A (eval e X.env) (EP X pins σ Q) X.xe s
def wT (S : Stat) (e : Expr) : TT := fun σ H Q => ∀ X, Ok S X → ∀ pins s, Inv X pins σ H s → wpAny (model X.prog X.w) X.A (isTrue e X.env (eval e X.env)) (TP X pins σ Q) X.xe s
/-- a test whatever its 'whole' is -/
def wW (S : Stat) (e : Expr) : TT := fun σ H Q => ∀ X, Ok S X → ∀ (whole : Sem Value) pins s, Inv X pins σ H s → wpAny (model X.prog X.w) X.A (isTrue e X.env whole) (TP X pins σ Q) X.xe s
def wA (S : Stat) (es : List Expr) : TA := fun σ H Q => ∀ X, Ok S X → ∀ pos pins s, Inv X pins σ H s → wpAny (model X.prog X.w) X.A (spliced (backTo pos (starEach es X.env))) (AP X pins σ Q) X.xe s
def wSs (S : Stat) (ss : List Stmt) : TS := fun D σ H => ∀ X, Ok S X → ∀ pins s, Inv X pins σ H s → wpAny (model X.prog X.w) X.A (execs ss X.env) (SP X pins D) X.xe s
def wS (S : Stat) (st : Stmt) : TS := fun D σ H => ∀ X, Ok S X → ∀ pins s, Inv X pins σ H s → wpAny (model X.prog X.w) X.A (exec st X.env) (SP X pins D) X.xe s
def wG (S : Stat) (tg : Expr) : TG := fun v σ H Q => ∀ X, Ok S X → ∀ pins s u, Inv X pins σ H s → RelV v u → wpAny (model X.prog X.w) X.A (assign tg X.env u) (fun _ s' => ∃ σ' H', Inv X pins σ' H' s' ∧ Q σ' H') X.xe s
section
variable {S : Stat} {X : Cx}
theorem w_e (o : Ok S X) (e : Expr) : PE X e (wE S e) := ⟨fun pins s _ _ _ I h => h X o pins s I⟩
theorem w_t (o : Ok S X) (e : Expr) : PT X e (wT S e) := ⟨fun pins s _ _ _ I h => h X o pins s I⟩
theorem w_w (o : Ok S X) (e : Expr) : PW X e (wW S e) := ⟨fun whole pins s _ _ _ I h => h X o whole pins s I⟩
theorem w_a (o : Ok S X) (es : List Expr) : PA X es (wA S es) := ⟨fun pos pins s _ _ _ I h => h X o pos pins s I⟩
theorem w_s (o : Ok S X) (st : Stmt) : PS X st (wS S st) := ⟨fun pins s _ _ _ I h => h X o pins s I⟩
theorem w_ss (o : Ok S X) (ss : List Stmt) : PSs X ss (wSs S ss) := ⟨fun pins s _ _ _ I h => h X o pins s I⟩
theorem w_g (o : Ok S X) (tg : Expr) : PG X tg (wG S tg) := ⟨fun pins s _ _ _ u _ I r h => h X o pins s u I r⟩
end

/-! ### over data -/
abbrev PoE := Da → Sto → Prop
def ev (S : Stat) (e : Expr) (Γ : Gam) (Θ : Sto) (Post : PoE) : Prop :=
  ∀ σ H H1, Rep S.K σ H H1 Γ Θ → ∀ Q : VK, (∀ v d H' H2 Θ', Post d Θ' → Fr Θ H H1 Θ' H' H2 → Rep S.K σ H' H2 Γ Θ' → Dv S.K H' v d → Q v H2) → wE S e σ H1 Q
def ea (S : Stat) (es : List Expr) (Γ : Gam) (Θ : Sto) (Post : List Da → Sto → Prop) : Prop :=
  ∀ σ H H1, Rep S.K σ H H1 Γ Θ → ∀ Q : List V → Hp → Prop, (∀ vs ds H' H2 Θ', Post ds Θ' → Fr Θ H H1 Θ' H' H2 → Rep S.K σ H' H2 Γ Θ' → DvAll S.K H' vs ds → Q vs H2) → wA S es σ H1 Q
def et (S : Stat) (e : Expr) (Γ : Gam) (Θ : Sto) (Post : Bool → Sto → Prop) : Prop :=
  ∀ σ H H1, Rep S.K σ H H1 Γ Θ → ∀ Q : Bool → Hp → Prop, (∀ b H' H2 Θ', Post b Θ' → Fr Θ H H1 Θ' H' H2 → Rep S.K σ H' H2 Γ Θ' → Q b H2) → wT S e σ H1 Q
def ew (S : Stat) (e : Expr) (Γ : Gam) (Θ : Sto) (Post : Bool → Sto → Prop) : Prop :=
  ∀ σ H H1, Rep S.K σ H H1 Γ Θ → ∀ Q : Bool → Hp → Prop, (∀ b H' H2 Θ', Post b Θ' → Fr Θ H H1 Θ' H' H2 → Rep S.K σ H' H2 Γ Θ' → Q b H2) → wW S e σ H1 Q
/-- a target, for a value of the data d -/
def eg (S : Stat) (tg : Expr) (d : Da) (Γ : Gam) (Θ : Sto) (Post : Gam → Sto → Prop) : Prop :=
  ∀ σ H H1 v, Rep S.K σ H H1 Γ Θ → Dv S.K H v d → ∀ Q : L2.St → Hp → Prop, (∀ σ' Γ' H' H2 Θ', Post Γ' Θ' → Fr Θ H H1 Θ' H' H2 → Rep S.K σ' H' H2 Γ' Θ' → Q σ' H2) → wG S tg v σ H1 Q
structure DE where
  nx : Gam → Sto → Prop
  rt : Da → Sto → Prop
  bk : Gam → Sto → Prop := fun _ _ => False
  ct : Gam → Sto → Prop := fun _ _ => False
/-- a comparison of two expressions -/
def ec (S : Stat) (op : CmpOp) (a b : Expr) (Γ : Gam) (Θ : Sto) (Post : PoE) : Prop := behindInMarks op b = false ∧ ∃ r : R2, (∀ X, Ok S X → OpR X (compareOp op) r) ∧
  ∀ σ H H1, Rep S.K σ H H1 Γ Θ → ∀ Q : VK, (∀ v d H' H2 Θ', Post d Θ' → Fr Θ H H1 Θ' H' H2 → Rep S.K σ H' H2 Γ Θ' → Dv S.K H' v d → Q v H2) → wE S a σ H1 fun x H2 => wE S b σ H2 fun y H3 => r x y H3 Q
/-- the ends are met -/
structure EndsOk (K : Frag) (Θ : Sto) (H H1 : Hp) (D : DE) (E : Ends) : Prop where
  nx : ∀ σ' Γ' H' H2 Θ', D.nx Γ' Θ' → Fr Θ H H1 Θ' H' H2 → Rep K σ' H' H2 Γ' Θ' → E.nx σ' H2
  rt : ∀ v d H' H2 Θ', D.rt d Θ' → Fr Θ H H1 Θ' H' H2 → Rep K [] H' H2 [] Θ' → Dv K H' v d → E.rt v H2
  bk : ∀ σ' Γ' H' H2 Θ', D.bk Γ' Θ' → Fr Θ H H1 Θ' H' H2 → Rep K σ' H' H2 Γ' Θ' → E.bk σ' H2
  ct : ∀ σ' Γ' H' H2 Θ', D.ct Γ' Θ' → Fr Θ H H1 Θ' H' H2 → Rep K σ' H' H2 Γ' Θ' → E.ct σ' H2
def ex (S : Stat) (ss : List Stmt) (Γ : Gam) (Θ : Sto) (D : DE) : Prop := ∀ σ H H1, Rep S.K σ H H1 Γ Θ → ∀ E : Ends, EndsOk S.K Θ H H1 D E → wSs S ss E σ H1
def ex1 (S : Stat) (st : Stmt) (Γ : Gam) (Θ : Sto) (D : DE) : Prop := ∀ σ H H1, Rep S.K σ H H1 Γ Θ → ∀ E : Ends, EndsOk S.K Θ H H1 D E → wS S st E σ H1

section
variable {S : Stat} {e a b : Expr} {es : List Expr} {Γ Γ' : Gam} {Θ Θ' : Sto} {Post Post' : PoE} {pos : Pos}
/-- by a rule of the layer -/
theorem ev_mk {t : TE} (hp : ∀ X, Ok S X → PE X e t) (h : ∀ σ H H1, Rep S.K σ H H1 Γ Θ → ∀ Q : VK, (∀ v d H' H2 Θ', Post d Θ' → Fr Θ H H1 Θ' H' H2 → Rep S.K σ H' H2 Γ Θ' → Dv S.K H' v d → Q v H2) → t σ H1 Q) : ev S e Γ Θ Post :=
  fun σ H H1 R Q k X ok pins s I => (hp X ok).run pins s σ H1 Q I (h σ H H1 R Q k)
theorem ev.imp (h : ev S e Γ Θ Post) (q : ∀ d Θ', Post d Θ' → Post' d Θ') : ev S e Γ Θ Post' := fun σ H H1 R Q k => h σ H H1 R Q fun v d H' H2 Θ' p => k v d H' H2 Θ' (q d Θ' p)
theorem ev_drop (h : ev S e Γ Θ fun d Θ' => ∃ Θ'', LeS Θ'' Θ' ∧ Post d Θ'') : ev S e Γ Θ Post := fun σ H H1 R Q k => h σ H H1 R Q fun v d H' H2 Θ' ⟨Θ'', l, p⟩ f R' r => k v d H' H2 Θ'' p (f.le l) (R'.le l) r
/-- what is given back, a list that changes no more -/
theorem ev_frz (h : ev S e Γ Θ fun d Θ' => ∃ p ds, d = .obj p ∧ Θ' p = some (.lst ds) ∧ Post (.lst ds) (delS Θ' p)) : ev S e Γ Θ Post := fun σ H H1 R Q k => h σ H H1 R Q fun v d H' H2 Θ' ⟨p, ds, ed, hp, po⟩ f R' r => by
  subst ed
  cases r
  obtain ⟨vs, _, R2, f2, r2⟩ := R'.frz hp
  exact k _ _ _ _ _ po (f.trans R' f2) R2 r2
/-- one after another -/
theorem seq2 {σ : L2.St} {H H1 : Hp} {P2 : Da → Da → Sto → Prop} {Q : V → V → Hp → Prop} (h : ev S a Γ Θ fun x Θ1 => ev S b Γ Θ1 fun y Θ2 => P2 x y Θ2) (R : Rep S.K σ H H1 Γ Θ)
    (k : ∀ v1 v2 d1 d2 H' H3 Θ2, P2 d1 d2 Θ2 → Fr Θ H H1 Θ2 H' H3 → Rep S.K σ H' H3 Γ Θ2 → Dv S.K H' v1 d1 → Dv S.K H' v2 d2 → Q v1 v2 H3) : wE S a σ H1 fun x H2 => wE S b σ H2 fun y H3 => Q x y H3 :=
  h σ H H1 R _ fun v1 d1 H' H2 Θ1 h2 f1 R1 r1 => h2 σ H' H2 R1 _ fun v2 d2 H'' H3 Θ2 p f2 R2 r2 => k v1 v2 d1 d2 H'' H3 Θ2 p (f1.trans R1 f2) R2 (r1.mono f2.ke) r2

/-! ### names, constants -/
theorem ev_name {i : Nat} {x : Str} {d : Da} (hN : S.N[i]? = some x) (hv : Vis S.sc x) (hΓ : Γ[i]? = some (some d)) (h : Post d Θ) (hd : (x == ("__debug__" : Str)) = false := by decide) (hcd : (x == ("__classdict__" : Str)) = false := by decide) : ev S (.Name x pos) Γ Θ Post :=
  ev_mk (t := tVar i) (fun X o => pe_var (by rw [o.N]; exact hN) (by rw [o.sc]; exact hv) hd hcd) fun σ H H1 R Q k => by
    obtain ⟨v, hv, r⟩ := R.env i d hΓ
    exact ⟨v, hv, k v d H H1 Θ h Fr.refl R r⟩
theorem ev_c {v : V} {d : Da} (hp : ∀ X, Ok S X → PE X e (tC v)) (r : ∀ H, Dv S.K H v d) (h : Post d Θ) : ev S e Γ Θ Post := ev_mk hp fun σ H H1 R Q k => k v d H H1 Θ h Fr.refl R (r H)
theorem ev_int {i : Int} {j} (h : Post (.int i) Θ) : ev S (.Constant (.int i) j pos) Γ Θ Post := ev_c (fun _ _ => pe_int) (fun _ => .int i) h
theorem ev_bl {b : Bool} {j} (h : Post (.bl b) Θ) : ev S (.Constant (.bool b) j pos) Γ Θ Post := ev_c (fun _ _ => pe_bl) (fun _ => .bl b) h
theorem ev_non {j} (h : Post .non Θ) : ev S (.Constant .none j pos) Γ Θ Post := ev_c (fun _ _ => pe_non) (fun _ => .non) h
theorem ev_str {x : Str} {j} (h : Post (.str x) Θ) : ev S (.Constant (.str x) j pos) Γ Θ Post := ev_c (fun _ _ => pe_str) (fun _ => .str x) h
def Gs (S : Stat) (x : Str) : Prop := S.sc.names.lookup x = some .globalImplicit
theorem Ok.gl {X : Cx} {x : Str} (o : Ok S X) (h : Gs S x) : Gl X x := by
  unfold Gl Env.kindOf
  rw [o.sc]
  exact h
/-- a constant of the module: a number, a text -/
theorem ev_glob {x : Str} {v : V} {u : Value} {d : Da} (hg : Gs S x) (hm : S.mg x = some u) (r : RelV v u) (rd : ∀ H, Dv S.K H v d) (h : Post d Θ) (hd : (x == ("__debug__" : Str)) = false := by decide) : ev S (.Name x pos) Γ Θ Post :=
  ev_c (fun X o => pe_glob (o.gl hg) (by rw [o.mg]; exact hm) r hd) rd h

/-! ### operators on ints -/
theorem ev_opI {op : Operator} {C : Int → Int → Prop} {g : Int → Int → Int} (ho : ∀ X : Cx, OpR X (binaryOp op) (rI C fun i j => .int (g i j)))
    (h : ev S a Γ Θ fun x Θ1 => ev S b Γ Θ1 fun y Θ2 => ∃ i j, x = .int i ∧ y = .int j ∧ C i j ∧ Post (.int (g i j)) Θ2) : ev S (.BinOp a op b pos) Γ Θ Post :=
  ev_mk (fun X o => pe_op (ho X) (w_e o a) (w_e o b)) fun σ H H1 R Q k => seq2 h R fun v1 v2 d1 d2 H' H3 Θ2 ⟨i, j, e1, e2, c, p⟩ f R' r1 r2 => by
    subst e1 e2
    cases r1
    cases r2
    exact ⟨i, j, rfl, rfl, c, k _ _ _ _ _ p f R' (.int _)⟩
theorem ev_opI0 {op : Operator} {g : Int → Int → Int} (ho : ∀ X : Cx, OpR X (binaryOp op) (rI0 fun i j => .int (g i j)))
    (h : ev S a Γ Θ fun x Θ1 => ev S b Γ Θ1 fun y Θ2 => ∃ i j, x = .int i ∧ y = .int j ∧ Post (.int (g i j)) Θ2) : ev S (.BinOp a op b pos) Γ Θ Post :=
  ev_mk (fun X o => pe_op (ho X) (w_e o a) (w_e o b)) fun σ H H1 R Q k => seq2 h R fun v1 v2 d1 d2 H' H3 Θ2 ⟨i, j, e1, e2, p⟩ f R' r1 r2 => by
    subst e1 e2
    cases r1
    cases r2
    exact ⟨i, j, rfl, rfl, k _ _ _ _ _ p f R' (.int _)⟩
theorem ev_add (h : ev S a Γ Θ fun x Θ1 => ev S b Γ Θ1 fun y Θ2 => ∃ i j, x = .int i ∧ y = .int j ∧ Post (.int (i + j)) Θ2) : ev S (.BinOp a .Add b pos) Γ Θ Post := ev_opI0 (fun _ => op_add) h
theorem ev_sub (h : ev S a Γ Θ fun x Θ1 => ev S b Γ Θ1 fun y Θ2 => ∃ i j, x = .int i ∧ y = .int j ∧ Post (.int (i - j)) Θ2) : ev S (.BinOp a .Sub b pos) Γ Θ Post := ev_opI0 (fun _ => op_sub) h
theorem ev_mul (h : ev S a Γ Θ fun x Θ1 => ev S b Γ Θ1 fun y Θ2 => ∃ i j, x = .int i ∧ y = .int j ∧ CMulW i j ∧ Post (.int (i * j)) Θ2) : ev S (.BinOp a .Mult b pos) Γ Θ Post := ev_opI (fun _ => op_mulW) h
theorem ev_fdiv (h : ev S a Γ Θ fun x Θ1 => ev S b Γ Θ1 fun y Θ2 => ∃ i j, x = .int i ∧ y = .int j ∧ CDivW i j ∧ Post (.int (i / j)) Θ2) : ev S (.BinOp a .FloorDiv b pos) Γ Θ Post := ev_opI (fun _ => op_fdivW) h
theorem ev_mod (h : ev S a Γ Θ fun x Θ1 => ev S b Γ Θ1 fun y Θ2 => ∃ i j, x = .int i ∧ y = .int j ∧ 0 < j ∧ Post (.int (i % j)) Θ2) : ev S (.BinOp a .Mod b pos) Γ Θ Post := ev_opI (fun _ => op_mod) h
theorem ev_pow (h : ev S a Γ Θ fun x Θ1 => ev S b Γ Θ1 fun y Θ2 => ∃ i j, x = .int i ∧ y = .int j ∧ CPow i j ∧ Post (.int (i ^ j.toNat)) Θ2) : ev S (.BinOp a .Pow b pos) Γ Θ Post := ev_opI (fun _ => op_pow) h
theorem ev_neg (h : ev S a Γ Θ fun x Θ1 => ∃ i, x = .int i ∧ Post (.int (-i)) Θ1) : ev S (.UnaryOp .USub a pos) Γ Θ Post :=
  ev_mk (fun X o => pe_un un_neg (w_e o a)) fun σ H H1 R Q k => h σ H H1 R _ fun v d H' H2 Θ' ⟨i, e, p⟩ f R' r => by
    subst e
    cases r
    exact ⟨i, rfl, k _ _ _ _ _ p f R' (.int _)⟩
/-! ### comparisons -/
theorem ec_cmp {op : CmpOp} {r : R2} (ho : ∀ X, Ok S X → OpR X (compareOp op) r) (hm : behindInMarks op b = false) (h : ev S a Γ Θ fun x Θ1 => ev S b Γ Θ1 fun y Θ2 => ∃ z, Post z Θ2 ∧ ∀ (H H1 : Hp) (vx vy : V) (Q : VK), Same H H1 → Dv S.K H vx x → Dv S.K H vy y → (∀ v, Dv S.K H v z → Q v H1) → r vx vy H1 Q) :
    ec S op a b Γ Θ Post :=
  ⟨hm, r, ho, fun σ H H1 R Q k => seq2 h R fun v1 v2 d1 d2 H' H3 Θ2 ⟨z, p, q⟩ f R' r1 r2 => q H' H3 v1 v2 _ R'.ex r1 r2 fun v r => k _ _ _ _ _ p f R' r⟩
theorem ec_cmpI {op : CmpOp} {g : Int → Int → Bool} (ho : ∀ X : Cx, OpR X (compareOp op) (rI0 fun i j => .bl (g i j))) (hm : behindInMarks op b = false)
    (h : ev S a Γ Θ fun x Θ1 => ev S b Γ Θ1 fun y Θ2 => ∃ i j, x = .int i ∧ y = .int j ∧ Post (.bl (g i j)) Θ2) : ec S op a b Γ Θ Post :=
  ec_cmp (fun X _ => ho X) hm (h.imp fun x Θ1 h1 => h1.imp fun y Θ2 ⟨i, j, e1, e2, p⟩ => ⟨_, p, fun H H1 vx vy Q _ r1 r2 q => by
    subst e1 e2
    cases r1
    cases r2
    exact ⟨i, j, rfl, rfl, q _ (.bl _)⟩⟩)
theorem ec_lt (h : ev S a Γ Θ fun x Θ1 => ev S b Γ Θ1 fun y Θ2 => ∃ i j, x = .int i ∧ y = .int j ∧ Post (.bl (decide (i < j))) Θ2) : ec S .Lt a b Γ Θ Post := ec_cmpI (fun _ => op_lt) (nomark _) h
theorem ec_le (h : ev S a Γ Θ fun x Θ1 => ev S b Γ Θ1 fun y Θ2 => ∃ i j, x = .int i ∧ y = .int j ∧ Post (.bl (decide (i ≤ j))) Θ2) : ec S .LtE a b Γ Θ Post := ec_cmpI (fun _ => op_le) (nomark _) h
theorem ec_gt (h : ev S a Γ Θ fun x Θ1 => ev S b Γ Θ1 fun y Θ2 => ∃ i j, x = .int i ∧ y = .int j ∧ Post (.bl (decide (j < i))) Θ2) : ec S .Gt a b Γ Θ Post := ec_cmpI (fun _ => op_gt) (nomark _) h
theorem ec_ge (h : ev S a Γ Θ fun x Θ1 => ev S b Γ Θ1 fun y Θ2 => ∃ i j, x = .int i ∧ y = .int j ∧ Post (.bl (decide (j ≤ i))) Θ2) : ec S .GtE a b Γ Θ Post := ec_cmpI (fun _ => op_ge) (nomark _) h
/-- the scalars: == of them -/
def scV : Da → Option V
  | .non => some .non
  | .bl b => some (.bl b)
  | .int i => some (.int i)
  | .str x => some (.str x)
  | _ => none
theorem scV_of {K : Frag} {H : Hp} {v w : V} {d : Da} (h : scV d = some w) (r : Dv K H v d) : v = w := by
  cases r <;> first | exact Option.some.inj h | cases h
theorem ec_eqS (h : ev S a Γ Θ fun x Θ1 => ev S b Γ Θ1 fun y Θ2 => ∃ u w, scV x = some u ∧ scV y = some w ∧ scal u w = true ∧ Post (.bl (decide (u = w))) Θ2) : ec S .Eq a b Γ Θ Post :=
  ec_cmp (r := rEq) (fun X _ => op_eq) (nomark _) (h.imp fun x Θ1 h1 => h1.imp fun y Θ2 ⟨u, w, e1, e2, sc, p⟩ => ⟨_, p, fun H H1 vx vy Q _ r1 r2 q => by
    rw [scV_of e1 r1, scV_of e2 r2]
    exact ⟨sc, q _ (.bl _)⟩⟩)
theorem ec_neS (h : ev S a Γ Θ fun x Θ1 => ev S b Γ Θ1 fun y Θ2 => ∃ u w, scV x = some u ∧ scV y = some w ∧ scal u w = true ∧ Post (.bl (!decide (u = w))) Θ2) : ec S .NotEq a b Γ Θ Post :=
  ec_cmp (r := rNe) (fun X _ => op_ne) (nomark _) (h.imp fun x Θ1 h1 => h1.imp fun y Θ2 ⟨u, w, e1, e2, sc, p⟩ => ⟨_, p, fun H H1 vx vy Q _ r1 r2 q => by
    rw [scV_of e1 r1, scV_of e2 r2]
    exact ⟨sc, q _ (.bl _)⟩⟩)
theorem decV_int {i j : Int} : decide (V.int i = V.int j) = decide (i = j) := by
  by_cases h : i = j
  · subst h; simp
  · rw [decide_eq_false h, decide_eq_false fun q => h (V.int.inj q)]
theorem decV_str {i j : Str} : decide (V.str i = V.str j) = decide (i = j) := by
  by_cases h : i = j
  · subst h; simp
  · rw [decide_eq_false h, decide_eq_false fun q => h (V.str.inj q)]
theorem ec_eqI (h : ev S a Γ Θ fun x Θ1 => ev S b Γ Θ1 fun y Θ2 => ∃ i j, x = .int i ∧ y = .int j ∧ Post (.bl (decide (i = j))) Θ2) : ec S .Eq a b Γ Θ Post :=
  ec_eqS (h.imp fun x Θ1 h1 => h1.imp fun y Θ2 ⟨i, j, e1, e2, p⟩ => by subst e1 e2; exact ⟨_, _, rfl, rfl, rfl, by rw [decV_int]; exact p⟩)
theorem ec_neI (h : ev S a Γ Θ fun x Θ1 => ev S b Γ Θ1 fun y Θ2 => ∃ i j, x = .int i ∧ y = .int j ∧ Post (.bl (!decide (i = j))) Θ2) : ec S .NotEq a b Γ Θ Post :=
  ec_neS (h.imp fun x Θ1 h1 => h1.imp fun y Θ2 ⟨i, j, e1, e2, p⟩ => by subst e1 e2; exact ⟨_, _, rfl, rfl, rfl, by rw [decV_int]; exact p⟩)
theorem ec_eqT (h : ev S a Γ Θ fun x Θ1 => ev S b Γ Θ1 fun y Θ2 => ∃ i j, x = .str i ∧ y = .str j ∧ Post (.bl (decide (i = j))) Θ2) : ec S .Eq a b Γ Θ Post :=
  ec_eqS (h.imp fun x Θ1 h1 => h1.imp fun y Θ2 ⟨i, j, e1, e2, p⟩ => by subst e1 e2; exact ⟨_, _, rfl, rfl, rfl, by rw [decV_str]; exact p⟩)
theorem ec_neT (h : ev S a Γ Θ fun x Θ1 => ev S b Γ Θ1 fun y Θ2 => ∃ i j, x = .str i ∧ y = .str j ∧ Post (.bl (!decide (i = j))) Θ2) : ec S .NotEq a b Γ Θ Post :=
  ec_neS (h.imp fun x Θ1 h1 => h1.imp fun y Θ2 ⟨i, j, e1, e2, p⟩ => by subst e1 e2; exact ⟨_, _, rfl, rfl, rfl, by rw [decV_str]; exact p⟩)
def Da.isN : Da → Bool
  | .non => true
  | _ => false
theorem isN_dec {K : Frag} {H : Hp} {v : V} {d : Da} (r : Dv K H v d) : decide (v = .non) = d.isN := by
  cases r <;> rfl
theorem ec_isN (h : ev S a Γ Θ fun x Θ1 => ev S b Γ Θ1 fun y Θ2 => y = .non ∧ Post (.bl x.isN) Θ2) : ec S .Is a b Γ Θ Post :=
  ec_cmp (fun X _ => op_isN) (nomark _) (h.imp fun x Θ1 h1 => h1.imp fun y Θ2 ⟨e2, p⟩ => ⟨_, p, fun H H1 vx vy Q _ r1 r2 q => by
    subst e2
    cases r2
    exact ⟨rfl, by rw [isN_dec r1]; exact q _ (.bl _)⟩⟩)
theorem ec_notN (h : ev S a Γ Θ fun x Θ1 => ev S b Γ Θ1 fun y Θ2 => y = .non ∧ Post (.bl (!x.isN)) Θ2) : ec S .IsNot a b Γ Θ Post :=
  ec_cmp (fun X _ => op_notN) (nomark _) (h.imp fun x Θ1 h1 => h1.imp fun y Θ2 ⟨e2, p⟩ => ⟨_, p, fun H H1 vx vy Q _ r1 r2 q => by
    subst e2
    cases r2
    exact ⟨rfl, by rw [isN_dec r1]; exact q _ (.bl _)⟩⟩)
/-! data, at any depth -/
mutual
def toP : Da → Option PyData
  | .non => some .none
  | .bl b => some (.bool b)
  | .int i => some (.int i)
  | .str x => some (.str x)
  | .lst ds => (toPs ds).map .list
  | .tup ds => (toPs ds).map .tuple
  | .obj _ => none
  | .wls ds => (toPs ds).map .list
  | .wtp ds => (toPs ds).map .tuple
  | .ty _ => none
def toPs : List Da → Option (List PyData)
  | [] => some []
  | d :: ds => match toP d, toPs ds with
    | some p, some ps => some (p :: ps)
    | _, _ => none
end
mutual
theorem dp_of {K : Frag} {H : Hp} : ∀ {d : Da} {v : V} {p : PyData}, Dv K H v d → toP d = some p → Dp K H v p
  | .non, _, _, r, e => by cases r; rw [toP] at e; cases e; exact .non
  | .bl b, _, _, r, e => by cases r; rw [toP] at e; cases e; exact .bl b
  | .int i, _, _, r, e => by cases r; rw [toP] at e; cases e; exact .int i
  | .str i, _, _, r, e => by cases r; rw [toP] at e; cases e; exact .str i
  | .obj a, _, _, r, e => by rw [toP] at e; cases e
  | .lst ds, _, _, r, e => by
    rw [toP] at e
    cases q : toPs ds with
    | none => rw [q] at e; cases e
    | some ps =>
      rw [q] at e
      cases e
      cases r with
      | lst s rs => exact .lst (.inl (.inl s)) (dpAll_of rs q)
  | .wls ds, _, _, r, e => by
    rw [toP] at e
    cases q : toPs ds with
    | none => rw [q] at e; cases e
    | some ps =>
      rw [q] at e
      cases e
      cases r with
      | wls s rs => exact .lst s (dpAll_of rs q)
  | .tup ds, _, _, r, e => by
    rw [toP] at e
    cases q : toPs ds with
    | none => rw [q] at e; cases e
    | some ps =>
      rw [q] at e
      cases e
      cases r with
      | tup s rs => exact .tup (.inl (.inl s)) (dpAll_of rs q)
  | .wtp ds, _, _, r, e => by
    rw [toP] at e
    cases q : toPs ds with
    | none => rw [q] at e; cases e
    | some ps =>
      rw [q] at e
      cases e
      cases r with
      | wtp s rs => exact .tup s (dpAll_of rs q)
  | .ty n, _, _, r, e => by rw [toP] at e; cases e
theorem dpAll_of {K : Frag} {H : Hp} : ∀ {ds : List Da} {vs : List V} {ps : List PyData}, DvAll K H vs ds → toPs ds = some ps → DpAll K H vs ps
  | [], _, _, r, e => by cases r; rw [toPs] at e; cases e; exact .nil
  | d :: ds, _, _, r, e => by
    rw [toPs] at e
    cases q : toP d with
    | none => rw [q] at e; cases e
    | some p =>
      cases q2 : toPs ds with
      | none => rw [q, q2] at e; cases e
      | some ps =>
        rw [q, q2] at e
        cases e
        cases r with
        | cons r1 r2 => exact .cons (dp_of r1 q) (dpAll_of r2 q2)
end
mutual
theorem dp_same {K : Frag} {H H' : Hp} (e : Same H H') : ∀ {p : PyData} {v : V}, Dp K H v p → Dp K H' v p
  | .none, _, h => by cases h; exact .non
  | .bool b, _, h => by cases h; exact .bl b
  | .int i, _, h => by cases h; exact .int i
  | .str x, _, h => by cases h; exact .str x
  | .list ds, _, h => by
    cases h with
    | lst s r => exact .lst (e.seq s) (dpAll_same e r)
  | .tuple ds, _, h => by
    cases h with
    | tup s r => exact .tup (seqT e s) (dpAll_same e r)
  | .dict _, _, h => by cases h
theorem dpAll_same {K : Frag} {H H' : Hp} (e : Same H H') : ∀ {ps : List PyData} {vs : List V}, DpAll K H vs ps → DpAll K H' vs ps
  | [], _, h => by cases h; exact .nil
  | p :: ps, _, h => by
    cases h with
    | cons a b => exact .cons (dp_same e a) (dpAll_same e b)
end
theorem ec_eqD (h : ev S a Γ Θ fun x Θ1 => ev S b Γ Θ1 fun y Θ2 => ∃ p q, toP x = some p ∧ toP y = some q ∧ SeqAt.shaped p = true ∧ SeqAt.shaped q = true ∧ Post (.bl (PyData.eqv p q)) Θ2) : ec S .Eq a b Γ Θ Post :=
  ec_cmp (r := rEqD S.K) (fun X o => o.K ▸ op_eqD o.room.units) (nomark _) (h.imp fun x Θ1 h1 => h1.imp fun y Θ2 ⟨p, q, e1, e2, s1, s2, po⟩ => ⟨_, po, fun H H1 vx vy Q sm r1 r2 k =>
    ⟨p, q, dp_same sm (dp_of r1 e1), dp_same sm (dp_of r2 e2), s1, s2, k _ (.bl _)⟩⟩)
theorem ec_neD (h : ev S a Γ Θ fun x Θ1 => ev S b Γ Θ1 fun y Θ2 => ∃ p q, toP x = some p ∧ toP y = some q ∧ SeqAt.shaped p = true ∧ SeqAt.shaped q = true ∧ Post (.bl (!PyData.eqv p q)) Θ2) : ec S .NotEq a b Γ Θ Post :=
  ec_cmp (r := rNeD S.K) (fun X o => o.K ▸ op_neD o.room.units) (nomark _) (h.imp fun x Θ1 h1 => h1.imp fun y Θ2 ⟨p, q, e1, e2, s1, s2, po⟩ => ⟨_, po, fun H H1 vx vy Q sm r1 r2 k =>
    ⟨p, q, dp_same sm (dp_of r1 e1), dp_same sm (dp_of r2 e2), s1, s2, k _ (.bl _)⟩⟩)
theorem units65 {X : Cx} (o : Ok S X) : X.A.units + 65 < cLine := by have := o.room.un; omega
/-- x in a list of data, not in -/
theorem ec_inD (hm : behindInMarks .In b = false) (h : ev S a Γ Θ fun x Θ1 => ev S b Γ Θ1 fun y Θ2 => ∃ p qs, toP x = some p ∧ toP y = some (.list qs) ∧ SeqAt.shaped p = true ∧ SeqAt.shaped (.list qs) = true ∧ Post (.bl (qs.any fun z => PyData.eqv z p)) Θ2) : ec S .In a b Γ Θ Post :=
  ec_cmp (r := rInD S.K) (fun X o => o.K ▸ op_inD (units65 o)) hm (h.imp fun x Θ1 h1 => h1.imp fun y Θ2 ⟨p, q, e1, e2, s1, s2, po⟩ => ⟨_, po, fun H H1 vx vy Q sm r1 r2 k =>
    ⟨p, q, dp_same sm (dp_of r1 e1), dp_same sm (dp_of r2 e2), s1, s2, k _ (.bl _)⟩⟩)
theorem ec_notInD (hm : behindInMarks .NotIn b = false) (h : ev S a Γ Θ fun x Θ1 => ev S b Γ Θ1 fun y Θ2 => ∃ p qs, toP x = some p ∧ toP y = some (.list qs) ∧ SeqAt.shaped p = true ∧ SeqAt.shaped (.list qs) = true ∧ Post (.bl (!qs.any fun z => PyData.eqv z p)) Θ2) : ec S .NotIn a b Γ Θ Post :=
  ec_cmp (r := rNotInD S.K) (fun X o => o.K ▸ op_notInD (units65 o)) hm (h.imp fun x Θ1 h1 => h1.imp fun y Θ2 ⟨p, q, e1, e2, s1, s2, po⟩ => ⟨_, po, fun H H1 vx vy Q sm r1 r2 k =>
    ⟨p, q, dp_same sm (dp_of r1 e1), dp_same sm (dp_of r2 e2), s1, s2, k _ (.bl _)⟩⟩)
/-- x in a list or a tuple of flat things -/
def flatD : Da → Bool
  | .non => true
  | .bl _ => true
  | .int _ => true
  | .str _ => true
  | _ => false
end
end Z
/-! ZRules: sequences, displays, builtins, and, or, tests. -/
namespace Z
open PySem PySem.Spec PyProof.Rows L2
section
variable {S : Stat} {e a b : Expr} {es : List Expr} {Γ Γ' : Gam} {Θ Θ' : Sto} {Post Post' : PoE} {pos : Pos}
/-! ### flat things -/
def vD : Da → V
  | .non => .non
  | .bl b => .bl b
  | .int i => .int i
  | .str x => .str x
  | _ => .non
theorem vD_of {K : Frag} {H : Hp} {v : V} {d : Da} (f : flatD d = true) (r : Dv K H v d) : v = vD d := by
  cases r <;> first | rfl | cases f
theorem vDs_of {K : Frag} {H : Hp} : ∀ {ds : List Da} {vs : List V}, ds.all flatD = true → DvAll K H vs ds → vs = ds.map vD
  | [], _, _, r => by cases r; rfl
  | d :: ds, _, f, r => by
    rw [List.all_cons, Bool.and_eq_true] at f
    cases r with
    | cons r1 r2 => rw [vD_of f.1 r1, vDs_of f.2 r2]; rfl
theorem flat_vD {d : Da} (h : flatD d = true) : flatV (vD d) = true := by
  cases d <;> first | rfl | cases h
theorem flat_vDs : ∀ {ds : List Da}, ds.all flatD = true → (ds.map vD).all flatV = true
  | [], _ => rfl
  | d :: ds, f => by
    rw [List.all_cons, Bool.and_eq_true] at f
    rw [List.map_cons, List.all_cons, flat_vD f.1, flat_vDs f.2]
    rfl
/-- what a list, a tuple, a list of the store holds -/
def SeqD (Θ : Sto) (x : Da) (ds : List Da) : Prop := x = .lst ds ∨ x = .tup ds ∨ (∃ p, x = .obj p ∧ Θ p = some (.lst ds)) ∨ x = .wls ds ∨ x = .wtp ds
theorem seq_at {σ : L2.St} {H H1 : Hp} {x : Da} {ds : List Da} {v : V} (R : Rep S.K σ H H1 Γ Θ) (h : SeqD Θ x ds) (r : Dv S.K H v x) : ∃ p vs, v = .ref p ∧ (SqL S.K H1 p vs ∨ SqT S.K H1 p vs) ∧ DvAll S.K H vs ds := by
  rcases h with rfl | rfl | ⟨p, rfl, hp⟩ | rfl | rfl
  · cases r with
    | lst s q => exact ⟨_, _, rfl, .inl (.inl (.inl (R.ex _ _ s))), q⟩
  · cases r with
    | tup s q => exact ⟨_, _, rfl, .inr (.inl (.inl (R.ex _ _ s))), q⟩
  · cases r
    obtain ⟨_, vs, e, q⟩ := R.sto p _ hp
    exact ⟨_, vs, rfl, .inl (.inl (.inl e)), q⟩
  · cases r with
    | wls s q => exact ⟨_, _, rfl, .inl (R.ex.seq s), q⟩
  · cases r with
    | wtp s q => exact ⟨_, _, rfl, .inr (seqT R.ex s), q⟩
theorem ec_inF {neg : Bool} {op : CmpOp} (ho : ∀ X : Cx, OpR X (compareOp op) (rIn X.K neg)) (hm : behindInMarks op b = false)
    (h : ev S a Γ Θ fun x Θ1 => ev S b Γ Θ1 fun y Θ2 => ∃ ds, SeqD Θ2 y ds ∧ flatD x = true ∧ ds.all flatD = true ∧ Post (.bl (if neg then !inV (vD x) (ds.map vD) else inV (vD x) (ds.map vD))) Θ2) : ec S op a b Γ Θ Post :=
  ⟨hm, rIn S.K neg, fun X o => o.K ▸ ho X, fun σ H H1 R Q k => seq2 h R fun v1 v2 d1 d2 H' H3 Θ2 ⟨ds, sd, f1, f2, p⟩ f R' r1 r2 => by
    obtain ⟨q, vs, rfl, sq, rs⟩ := seq_at R' sd r2
    rw [vD_of f1 r1]
    rw [vDs_of f2 rs] at sq
    exact ⟨q, _, rfl, sq, flat_vD f1, flat_vDs f2, k _ _ _ _ _ p f R' (.bl _)⟩⟩
theorem ec_in (hm : behindInMarks .In b = false) (h : ev S a Γ Θ fun x Θ1 => ev S b Γ Θ1 fun y Θ2 => ∃ ds, SeqD Θ2 y ds ∧ flatD x = true ∧ ds.all flatD = true ∧ Post (.bl (inV (vD x) (ds.map vD))) Θ2) : ec S .In a b Γ Θ Post := ec_inF (neg := false) (fun _ => op_in_seq) hm h
theorem ec_notIn (hm : behindInMarks .NotIn b = false) (h : ev S a Γ Θ fun x Θ1 => ev S b Γ Θ1 fun y Θ2 => ∃ ds, SeqD Θ2 y ds ∧ flatD x = true ∧ ds.all flatD = true ∧ Post (.bl (!inV (vD x) (ds.map vD))) Θ2) : ec S .NotIn a b Γ Θ Post := ec_inF (neg := true) (fun _ => op_notIn_seq) hm h

/-! ### an item, a slice -/
theorem atI_da {K : Frag} {H : Hp} {vs : List V} {ds : List Da} {i : Int} {d : Da} (r : DvAll K H vs ds) (h : atI ds i = some d) : ∃ v, atI vs i = some v ∧ Dv K H v d := by
  unfold atI at h ⊢
  rw [r.length]
  cases q : ixN ds.length i with
  | none => rw [q] at h; cases h
  | some j =>
    rw [q] at h
    exact r.getd h
theorem ev_ix (hs : PlainIx b) (h : ev S a Γ Θ fun x Θ1 => ev S b Γ Θ1 fun y Θ2 => ∃ ds i d, SeqD Θ2 x ds ∧ y = .int i ∧ atI ds i = some d ∧ Post d Θ2) : ev S (.Subscript a b pos) Γ Θ Post :=
  ev_mk (t := tOp (rIx S.K) (wE S a) (wE S b)) (fun X o => o.K ▸ pe_ix ix_seq (w_e o a) (w_e o b) hs) fun σ H H1 R Q k => seq2 h R fun v1 v2 d1 d2 H' H3 Θ2 ⟨ds, i, d, sd, ei, ea, p⟩ f R' r1 r2 => by
    subst ei
    cases r2
    obtain ⟨q, vs, rfl, sq, rs⟩ := seq_at R' sd r1
    obtain ⟨v, hv, rv⟩ := atI_da rs ea
    rcases sq with sq | sq
    · exact .inl ⟨q, vs, i, v, rfl, rfl, sq, hv, k _ _ _ _ _ p f R' rv⟩
    · exact .inr (.inl ⟨q, vs, i, v, rfl, rfl, sq, hv, k _ _ _ _ _ p f R' rv⟩)
def wO (S : Stat) (o : Option Expr) : TO := fun σ H Q => match o with
  | none => Q none H
  | some e => wE S e σ H fun x H1 => ∃ i, x = .int i ∧ Q (some i) H1
theorem w_o {X : Cx} (ok : Ok S X) : ∀ o : Option Expr, PO X o (wO S o)
  | none => po_none
  | some e => po_some (w_e ok e)
def eo (S : Stat) (o : Option Expr) (Γ : Gam) (Θ : Sto) (Post : Option Int → Sto → Prop) : Prop := match o with
  | none => Post none Θ
  | some e => ev S e Γ Θ fun x Θ1 => ∃ i, x = .int i ∧ Post (some i) Θ1
theorem eo_run {σ : L2.St} {H H1 : Hp} {o : Option Expr} {P2 : Option Int → Sto → Prop} {Q : Option Int → Hp → Prop} (h : eo S o Γ Θ P2) (R : Rep S.K σ H H1 Γ Θ)
    (k : ∀ i H' H2 Θ', P2 i Θ' → Fr Θ H H1 Θ' H' H2 → Rep S.K σ H' H2 Γ Θ' → Q i H2) : wO S o σ H1 Q := by
  cases o with
  | none => exact k none H H1 Θ h Fr.refl R
  | some e =>
    refine h σ H H1 R _ fun v d H' H2 Θ' ⟨i, ed, p⟩ f R' r => ?_
    subst ed
    cases r
    exact ⟨i, rfl, k _ _ _ _ p f R'⟩
def cutD (ds : List Da) (lo hi : Option Int) : List Da := (ds.drop (HT.sIx ds.length 0 lo)).take (HT.sIx ds.length ds.length hi - HT.sIx ds.length 0 lo)
theorem DvAll.cut {K : Frag} {H : Hp} {vs : List V} {ds : List Da} (h : DvAll K H vs ds) (lo hi : Option Int) : DvAll K H (cutV vs lo hi) (cutD ds lo hi) := by
  unfold cutV cutD
  rw [h.length]
  exact (h.drop _).take _
/-- a slice of a list: a new list, that changes no more -/
theorem ev_slL {lo hi : Option Expr} {p2 : Pos} (h : ev S a Γ Θ fun x Θ1 => eo S lo Γ Θ1 fun l Θ2 => eo S hi Γ Θ2 fun u Θ3 => ∃ ds, (x = .lst ds ∨ (∃ p, x = .obj p ∧ Θ3 p = some (.lst ds)) ∨ x = .wls ds) ∧ Post (.lst (cutD ds l u)) Θ3) : ev S (.Subscript a (.Slice lo hi none p2) pos) Γ Θ Post :=
  ev_mk (t := tSl (rSlL S.K) (wE S a) (wO S lo) (wO S hi)) (fun X o => o.K ▸ pe_slice sl_list (w_e o a) (w_o o lo) (w_o o hi)) fun σ H H1 R Q k => h σ H H1 R _ fun v1 d1 H' H2 Θ1 h2 f1 R1 r1 =>
    eo_run h2 R1 fun l H'' H3 Θ2 h3 f2 R2 => eo_run h3 R2 fun u H4 H5 Θ3 ⟨ds, sd, p⟩ f3 R3 => by
      have r := (r1.mono f2.ke).mono f3.ke
      have ff := (f1.trans R1 f2).trans R2 f3
      have key : ∀ (q : Addr) (vs : List V), v1 = .ref q → SqL S.K H5 q vs → DvAll S.K H4 vs ds → rSlL S.K v1 l u H5 Q := fun q vs ev sq rs =>
        ⟨q, vs, ev, sq, fun pn hp => k _ _ _ _ _ p (ff.trans R3 (Fr.new hp (R3.no hp).1)) (R3.new hp) (.lst upd_same ((rs.cut l u).mono (same_upd (R3.no hp).1)))⟩
      rcases sd with rfl | ⟨q, rfl, hq⟩ | rfl
      · cases r with
        | lst s q => exact key _ _ rfl (.inl (.inl (R3.ex _ _ s))) q
      · cases r
        obtain ⟨_, vs, e, rs⟩ := R3.sto q _ hq
        exact key _ _ rfl (.inl (.inl e)) rs
      · cases r with
        | wls s q => exact key _ _ rfl (R3.ex.seq s) q

/-! ### argument lists, displays -/
abbrev NoStar (e : Expr) : Prop := ∀ (es : List Expr) (env : Env), starEach (e :: es) env = (false, eval e env) :: starEach es env
abbrev NoStars (es : List Expr) : Prop := ∀ (pos : Pos) (env : Env), (backTo pos (starEach es env)).any (·.1) = false
theorem ea_nil {P : List Da → Sto → Prop} (h : P [] Θ) : ea S [] Γ Θ P := fun σ H H1 R Q k X ok pos pins s I => (pa_nil (X := X)).run pos pins s σ H1 Q I (k _ _ H H1 Θ h Fr.refl R .nil)
theorem ea_cons {P : List Da → Sto → Prop} (h : ev S e Γ Θ fun d Θ1 => ea S es Γ Θ1 fun ds Θ2 => P (d :: ds) Θ2) (hs : NoStar e := by intro _ _; rfl) : ea S (e :: es) Γ Θ P :=
  fun σ H H1 R Q k X ok pos pins s I => (pa_cons (w_e ok e) (w_a ok es) (hs _ _)).run pos pins s σ H1 Q I (h σ H H1 R _ fun v d H' H2 Θ1 h2 f1 R1 r1 => h2 σ H' H2 R1 _ fun vs ds H'' H3 Θ2 p f2 R2 r2 => k _ _ _ _ _ p (f1.trans R1 f2) R2 (.cons (r1.mono f2.ke) r2))
theorem ev_tup {x1} (h : ea S es Γ Θ fun ds Θ1 => ds.length ≤ sizeLine ∧ Post (.tup ds) Θ1) : ev S (.Tuple es x1 pos) Γ Θ Post :=
  ev_mk (fun X o => pe_tup (w_a o es)) fun σ H H1 R Q k => h σ H H1 R _ fun vs ds H' H2 Θ1 ⟨z, p⟩ f R' r => ⟨by rw [r.length]; exact z, fun pn hp =>
    k _ _ _ _ _ p (f.trans R' (Fr.new hp (R'.no hp).1)) (R'.new hp) (.tup upd_same (r.mono (same_upd (R'.no hp).1)))⟩
theorem ev_lst (h : ea S es Γ Θ fun ds Θ1 => ds.length ≤ sizeLine ∧ Post (.lst ds) Θ1) : ev S (.List es pos) Γ Θ Post :=
  ev_mk (fun X o => pe_lst (w_a o es)) fun σ H H1 R Q k => h σ H H1 R _ fun vs ds H' H2 Θ1 ⟨z, p⟩ f R' r => ⟨by rw [r.length]; exact z, fun pn hp =>
    k _ _ _ _ _ p (f.trans R' (Fr.new hp (R'.no hp).1)) (R'.new hp) (.lst upd_same (r.mono (same_upd (R'.no hp).1)))⟩
/-- a list that will change -/
theorem ev_lstM (h : ea S es Γ Θ fun ds Θ1 => ds.length ≤ sizeLine ∧ ∀ p, Θ1 p = none → Post (.obj p) (updS Θ1 p (.lst ds))) : ev S (.List es pos) Γ Θ Post :=
  ev_mk (fun X o => pe_lst (w_a o es)) fun σ H H1 R Q k => h σ H H1 R _ fun vs ds H' H2 Θ1 ⟨z, p⟩ f R' r => ⟨by rw [r.length]; exact z, fun pn hp =>
    k _ _ _ _ _ (p pn (R'.no hp).2) (f.trans R' (Fr.newM hp)) (R'.newM hp ⟨vs, upd_same, r⟩) (.obj pn)⟩

/-! ### builtins by name -/
def Bs (S : Stat) (x : Str) (u : Value) : Prop := Gs S x ∧ S.mg x = none ∧ bootBuiltins x = some u
theorem ev_callB {x : Str} {id : String} {r : List V → Hp → VK → Prop} {p : Pos} (hx : Bs S x (.builtin id)) (hc : ∀ X, Ok S X → CallR X (.builtin id) r)
    (h : ea S (e :: es) Γ Θ fun ds Θ1 => ∀ σ H H1, Rep S.K σ H H1 Γ Θ1 → ∀ vs, DvAll S.K H vs ds → ∀ Q : VK, (∀ v d H' H2 Θ', Post d Θ' → Fr Θ1 H H1 Θ' H' H2 → Rep S.K σ H' H2 Γ Θ' → Dv S.K H' v d → Q v H2) → r vs H1 Q) (hn : x ≠ "__name__" := by decide) (hdb : (x == ("__debug__" : Str)) = false := by decide)
    (he : NoStar e := by intro _ _; rfl) (hpl : NoStars es := by intro _ _; rfl) : ev S (.Call (.Name x p) (e :: es) [] pos) Γ Θ Post :=
  ev_mk (fun X o => pe_callB (hc X o) (o.gl hx.1) (by rw [o.mg]; exact hx.2.1) hx.2.2 (w_a o _) hn hdb (he _ _) (hpl _ _)) fun σ H H1 R Q k => h σ H H1 R _ fun vs ds H' H2 Θ1 q f R' rs =>
    q σ H' H2 R' vs rs Q fun v d H'' H3 Θ2 p f2 R2 r => k v d H'' H3 Θ2 p (f.trans R' f2) R2 r
theorem ev_callTy {x : Str} {T : String} {r : List V → Hp → VK → Prop} {p : Pos} (hx : Bs S x (.type T)) (hc : ∀ X, Ok S X → CallR X (.type T) r)
    (h : ea S (e :: es) Γ Θ fun ds Θ1 => ∀ σ H H1, Rep S.K σ H H1 Γ Θ1 → ∀ vs, DvAll S.K H vs ds → ∀ Q : VK, (∀ v d H' H2 Θ', Post d Θ' → Fr Θ1 H H1 Θ' H' H2 → Rep S.K σ H' H2 Γ Θ' → Dv S.K H' v d → Q v H2) → r vs H1 Q) (hn : x ≠ "__name__" := by decide) (hdb : (x == ("__debug__" : Str)) = false := by decide)
    (he : NoStar e := by intro _ _; rfl) (hpl : NoStars es := by intro _ _; rfl) : ev S (.Call (.Name x p) (e :: es) [] pos) Γ Θ Post :=
  ev_mk (fun X o => pe_callTy (hc X o) (o.gl hx.1) (by rw [o.mg]; exact hx.2.1) hx.2.2 (w_a o _) hn hdb (he _ _) (hpl _ _)) fun σ H H1 R Q k => h σ H H1 R _ fun vs ds H' H2 Θ1 q f R' rs =>
    q σ H' H2 R' vs rs Q fun v d H'' H3 Θ2 p f2 R2 r => k v d H'' H3 Θ2 p (f.trans R' f2) R2 r
theorem ea.imp {P P' : List Da → Sto → Prop} (h : ea S es Γ Θ P) (q : ∀ ds Θ', P ds Θ' → P' ds Θ') : ea S es Γ Θ P' := fun σ H H1 R Q k => h σ H H1 R Q fun v d H' H2 Θ' p => k v d H' H2 Θ' (q d Θ' p)
section
variable {x : Str} {p : Pos}
theorem ev_len (hx : Bs S "len" (.builtin "len")) (h : ev S e Γ Θ fun x Θ1 => ∃ ds, SeqD Θ1 x ds ∧ Post (.int (ds.length : Int)) Θ1) (hs : NoStar e := by intro _ _; rfl) : ev S (.Call (.Name "len" p) [e] [] pos) Γ Θ Post :=
  ev_callB (r := fun xs H Q => ∃ p ys, xs = [.ref p] ∧ (SqL S.K H p ys ∨ SqT S.K H p ys) ∧ Q (.int ys.length) H) hx (fun X o => o.K ▸ call_len_seq) (ea_cons (h.imp fun d Θ1 ⟨ds, sd, po⟩ => ea_nil fun σ H H1 R vs rs Q k => by
    cases rs with
    | cons r1 r2 =>
      cases r2
      obtain ⟨q, ws, rfl, sq, r⟩ := seq_at R sd r1
      refine ⟨q, ws, rfl, sq, ?_⟩
      rw [r.length]
      exact k _ _ _ _ _ po Fr.refl R (.int _)) hs) (by decide) (by decide) hs (fun _ _ => rfl)
theorem ev_abs (hx : Bs S "abs" (.builtin "abs")) (h : ev S e Γ Θ fun x Θ1 => ∃ i, x = .int i ∧ Post (.int (if i < 0 then -i else i)) Θ1) (hs : NoStar e := by intro _ _; rfl) : ev S (.Call (.Name "abs" p) [e] [] pos) Γ Θ Post :=
  ev_callB hx (fun X o => call_abs) (ea_cons (h.imp fun d Θ1 ⟨i, ed, po⟩ => ea_nil fun σ H H1 R vs rs Q k => by
    subst ed
    cases rs with
    | cons r1 r2 =>
      cases r2
      cases r1
      exact ⟨i, rfl, k _ _ _ _ _ po Fr.refl R (.int _)⟩) hs) (by decide) (by decide) hs (fun _ _ => rfl)
theorem ev_int1 (hx : Bs S "int" (.type "int")) (h : ev S e Γ Θ fun x Θ1 => ∃ b, x = .bl b ∧ Post (.int (if b then 1 else 0)) Θ1) (hs : NoStar e := by intro _ _; rfl) : ev S (.Call (.Name "int" p) [e] [] pos) Γ Θ Post :=
  ev_callTy hx (fun X o => call_int1) (ea_cons (h.imp fun d Θ1 ⟨i, ed, po⟩ => ea_nil fun σ H H1 R vs rs Q k => by
    subst ed
    cases rs with
    | cons r1 r2 =>
      cases r2
      cases r1
      exact .inr ⟨i, rfl, k _ _ _ _ _ po Fr.refl R (.int _)⟩) hs) (by decide) (by decide) hs (fun _ _ => rfl)
theorem ev_max2 (hx : Bs S "max" (.builtin "max")) (h : ev S a Γ Θ fun x Θ1 => ev S b Γ Θ1 fun y Θ2 => ∃ i j, x = .int i ∧ y = .int j ∧ Post (.int (if j > i then j else i)) Θ2) (hs : NoStar a := by intro _ _; rfl) (hs2 : NoStar b := by intro _ _; rfl)
    (hpl : NoStars [b] := by intro _ _; rfl) : ev S (.Call (.Name "max" p) [a, b] [] pos) Γ Θ Post :=
  ev_callB hx (fun X o => call_max2 o.calm) (ea_cons (h.imp fun d Θ1 h2 => ea_cons (h2.imp fun d2 Θ2 ⟨i, j, e1, e2, po⟩ => ea_nil fun σ H H1 R vs rs Q k => by
    subst e1 e2
    cases rs with
    | cons r1 r2 =>
      cases r2 with
      | cons r2 r3 =>
        cases r3
        cases r2
        cases r1
        exact ⟨i, j, rfl, k _ _ _ _ _ po Fr.refl R (.int _)⟩) hs2) hs) (by decide) (by decide) hs hpl
theorem ev_min2 (hx : Bs S "min" (.builtin "min")) (h : ev S a Γ Θ fun x Θ1 => ev S b Γ Θ1 fun y Θ2 => ∃ i j, x = .int i ∧ y = .int j ∧ Post (.int (if j < i then j else i)) Θ2) (hs : NoStar a := by intro _ _; rfl) (hs2 : NoStar b := by intro _ _; rfl)
    (hpl : NoStars [b] := by intro _ _; rfl) : ev S (.Call (.Name "min" p) [a, b] [] pos) Γ Θ Post :=
  ev_callB hx (fun X o => call_min2 o.calm) (ea_cons (h.imp fun d Θ1 h2 => ea_cons (h2.imp fun d2 Θ2 ⟨i, j, e1, e2, po⟩ => ea_nil fun σ H H1 R vs rs Q k => by
    subst e1 e2
    cases rs with
    | cons r1 r2 =>
      cases r2 with
      | cons r2 r3 =>
        cases r3
        cases r2
        cases r1
        exact ⟨i, j, rfl, k _ _ _ _ _ po Fr.refl R (.int _)⟩) hs2) hs) (by decide) (by decide) hs hpl
theorem ev_sum (hx : Bs S "sum" (.builtin "sum")) (h : ev S e Γ Θ fun x Θ1 => ∃ is : List Int, x = .lst (is.map .int) ∧ Post (.int is.sum) Θ1) (hs : NoStar e := by intro _ _; rfl) : ev S (.Call (.Name "sum" p) [e] [] pos) Γ Θ Post :=
  ev_callB (r := rSum S.K) hx (fun X o => o.K ▸ cr_sum o.calm) (ea_cons (h.imp fun d Θ1 ⟨is, ed, po⟩ => ea_nil fun σ H H1 R vs rs Q k => by
    subst ed
    cases rs with
    | cons r1 r2 =>
      cases r2
      cases r1 with
      | lst s r =>
        rw [r.ints] at s
        exact ⟨_, is, rfl, .inl (.inl (R.ex _ _ s)), k _ _ _ _ _ po Fr.refl R (.int _)⟩) hs) (by decide) (by decide) hs (fun _ _ => rfl)
theorem ev_max (hx : Bs S "max" (.builtin "max")) (h : ev S e Γ Θ fun x Θ1 => ∃ is : List Int, x = .lst (is.map .int) ∧ 0 < is.length ∧ ∀ m, m ∈ is → (∀ y, y ∈ is → y ≤ m) → Post (.int m) Θ1) (hs : NoStar e := by intro _ _; rfl) : ev S (.Call (.Name "max" p) [e] [] pos) Γ Θ Post :=
  ev_callB (r := rMax S.K) hx (fun X o => o.K ▸ cr_max o.calm) (ea_cons (h.imp fun d Θ1 ⟨is, ed, hl, po⟩ => ea_nil fun σ H H1 R vs rs Q k => by
    subst ed
    cases rs with
    | cons r1 r2 =>
      cases r2
      cases r1 with
      | lst s r =>
        rw [r.ints] at s
        exact ⟨_, is, rfl, .inl (.inl (R.ex _ _ s)), hl, fun m h1 h2 => k _ _ _ _ _ (po m h1 h2) Fr.refl R (.int _)⟩) hs) (by decide) (by decide) hs (fun _ _ => rfl)
theorem ev_min (hx : Bs S "min" (.builtin "min")) (h : ev S e Γ Θ fun x Θ1 => ∃ is : List Int, x = .lst (is.map .int) ∧ 0 < is.length ∧ ∀ m, m ∈ is → (∀ y, y ∈ is → m ≤ y) → Post (.int m) Θ1) (hs : NoStar e := by intro _ _; rfl) : ev S (.Call (.Name "min" p) [e] [] pos) Γ Θ Post :=
  ev_callB (r := rMin S.K) hx (fun X o => o.K ▸ cr_min o.calm) (ea_cons (h.imp fun d Θ1 ⟨is, ed, hl, po⟩ => ea_nil fun σ H H1 R vs rs Q k => by
    subst ed
    cases rs with
    | cons r1 r2 =>
      cases r2
      cases r1 with
      | lst s r =>
        rw [r.ints] at s
        exact ⟨_, is, rfl, .inl (.inl (R.ex _ _ s)), hl, fun m h1 h2 => k _ _ _ _ _ (po m h1 h2) Fr.refl R (.int _)⟩) hs) (by decide) (by decide) hs (fun _ _ => rfl)
theorem ev_all (hx : Bs S "all" (.builtin "all")) (h : ev S e Γ Θ fun x Θ1 => ∃ is : List Bool, x = .lst (is.map .bl) ∧ Post (.bl (is.all id)) Θ1) (hs : NoStar e := by intro _ _; rfl) : ev S (.Call (.Name "all" p) [e] [] pos) Γ Θ Post :=
  ev_callB (r := rAll S.K) hx (fun X o => o.K ▸ cr_all o.calm) (ea_cons (h.imp fun d Θ1 ⟨is, ed, po⟩ => ea_nil fun σ H H1 R vs rs Q k => by
    subst ed
    cases rs with
    | cons r1 r2 =>
      cases r2
      cases r1 with
      | lst s r =>
        rw [r.bls] at s
        exact ⟨_, is, rfl, .inl (.inl (R.ex _ _ s)), k _ _ _ _ _ po Fr.refl R (.bl _)⟩) hs) (by decide) (by decide) hs (fun _ _ => rfl)
theorem ev_any (hx : Bs S "any" (.builtin "any")) (h : ev S e Γ Θ fun x Θ1 => ∃ is : List Bool, x = .lst (is.map .bl) ∧ Post (.bl (is.any id)) Θ1) (hs : NoStar e := by intro _ _; rfl) : ev S (.Call (.Name "any" p) [e] [] pos) Γ Θ Post :=
  ev_callB (r := rAny S.K) hx (fun X o => o.K ▸ cr_any o.calm) (ea_cons (h.imp fun d Θ1 ⟨is, ed, po⟩ => ea_nil fun σ H H1 R vs rs Q k => by
    subst ed
    cases rs with
    | cons r1 r2 =>
      cases r2
      cases r1 with
      | lst s r =>
        rw [r.bls] at s
        exact ⟨_, is, rfl, .inl (.inl (R.ex _ _ s)), k _ _ _ _ _ po Fr.refl R (.bl _)⟩) hs) (by decide) (by decide) hs (fun _ _ => rfl)
/-- list(a list, a tuple): known for good | to be changed -/
theorem ev_list (hx : Bs S "list" (.type "list")) (h : ev S e Γ Θ fun x Θ1 => ∃ ds, SeqD Θ1 x ds ∧ Post (.lst ds) Θ1) (hs : NoStar e := by intro _ _; rfl) : ev S (.Call (.Name "list" p) [e] [] pos) Γ Θ Post :=
  ev_callTy (r := fun xs H Q => ∃ p ys, xs = [.ref p] ∧ (SqL S.K H p ys ∨ SqT S.K H p ys) ∧ ∀ l, H l = none → Q (.ref l) (upd H l (.lst ys))) hx (fun X o => o.K ▸ call_list_of) (ea_cons (h.imp fun d Θ1 ⟨ds, sd, po⟩ => ea_nil fun σ H H1 R vs rs Q k => by
    cases rs with
    | cons r1 r2 =>
      cases r2
      obtain ⟨q, ws, rfl, sq, r⟩ := seq_at R sd r1
      exact ⟨q, ws, rfl, sq, fun pn hp => k _ _ _ _ _ po (Fr.new hp (R.no hp).1) (R.new hp) (.lst upd_same (r.mono (same_upd (R.no hp).1)))⟩) hs) (by decide) (by decide) hs (fun _ _ => rfl)
theorem ev_listM (hx : Bs S "list" (.type "list")) (h : ev S e Γ Θ fun x Θ1 => ∃ ds, SeqD Θ1 x ds ∧ ∀ p, Θ1 p = none → Post (.obj p) (updS Θ1 p (.lst ds))) (hs : NoStar e := by intro _ _; rfl) : ev S (.Call (.Name "list" p) [e] [] pos) Γ Θ Post :=
  ev_callTy (r := fun xs H Q => ∃ p ys, xs = [.ref p] ∧ (SqL S.K H p ys ∨ SqT S.K H p ys) ∧ ∀ l, H l = none → Q (.ref l) (upd H l (.lst ys))) hx (fun X o => o.K ▸ call_list_of) (ea_cons (h.imp fun d Θ1 ⟨ds, sd, po⟩ => ea_nil fun σ H H1 R vs rs Q k => by
    cases rs with
    | cons r1 r2 =>
      cases r2
      obtain ⟨q, ws, rfl, sq, r⟩ := seq_at R sd r1
      exact ⟨q, ws, rfl, sq, fun pn hp => k _ _ _ _ _ (po pn (R.no hp).2) (Fr.newM hp) (R.newM hp ⟨ws, upd_same, r⟩) (.obj pn)⟩) hs) (by decide) (by decide) hs (fun _ _ => rfl)
theorem ev_tuple (hx : Bs S "tuple" (.type "tuple")) (h : ev S e Γ Θ fun x Θ1 => ∃ ds, SeqD Θ1 x ds ∧ x ≠ .wtp ds ∧ Post (.tup ds) Θ1) (hs : NoStar e := by intro _ _; rfl) : ev S (.Call (.Name "tuple" p) [e] [] pos) Γ Θ Post :=
  ev_callTy (r := fun xs H Q => ∃ p ys, xs = [.ref p] ∧ ((SqL S.K H p ys ∧ ∀ l, H l = none → Q (.ref l) (upd H l (.tup ys))) ∨ (SqT S.K H p ys ∧ Q (.ref p) H))) hx (fun X o => o.K ▸ call_tuple_of) (ea_cons (h.imp fun d Θ1 ⟨ds, sd, nw, po⟩ => ea_nil fun σ H H1 R vs rs Q k => by
    cases rs with
    | cons r1 r2 =>
      cases r2
      rcases sd with rfl | rfl | ⟨p, rfl, hp⟩ | rfl | rfl
      · cases r1 with
        | lst s r => exact ⟨_, _, rfl, .inl ⟨.inl (.inl (R.ex _ _ s)), fun pn hp => k _ _ _ _ _ po (Fr.new hp (R.no hp).1) (R.new hp) (.tup upd_same (r.mono (same_upd (R.no hp).1)))⟩⟩
      · cases r1 with
        | tup s r => exact ⟨_, _, rfl, .inr ⟨.inl (.inl (R.ex _ _ s)), k _ _ _ _ _ po Fr.refl R (.tup s r)⟩⟩
      · cases r1
        obtain ⟨_, vs, e, r⟩ := R.sto p _ hp
        exact ⟨_, _, rfl, .inl ⟨.inl (.inl e), fun pn hp => k _ _ _ _ _ po (Fr.new hp (R.no hp).1) (R.new hp) (.tup upd_same (r.mono (same_upd (R.no hp).1)))⟩⟩
      · cases r1 with
        | wls s r => exact ⟨_, _, rfl, .inl ⟨R.ex.seq s, fun pn hp => k _ _ _ _ _ po (Fr.new hp (R.no hp).1) (R.new hp) (.tup upd_same (r.mono (same_upd (R.no hp).1)))⟩⟩
      · exact absurd rfl nw) hs) (by decide) (by decide) hs (fun _ _ => rfl)
/-! isinstance -/
def tyD (Θ : Sto) : Da → Option String
  | .non => some "NoneType"
  | .bl _ => some "bool"
  | .int _ => some "int"
  | .str _ => some "str"
  | .lst _ => some "list"
  | .wls _ => some "list"
  | .tup _ => some "tuple"
  | .wtp _ => some "tuple"
  | .ty _ => none
  | .obj p => match Θ p with
    | some (.lst _) => some "list"
    | some (.dT _) => some "dict"
    | some (.dK _) => some "dict"
    | _ => none
theorem tyD_of {σ : L2.St} {H H1 : Hp} {v : V} {d : Da} {T : String} (R : Rep S.K σ H H1 Γ Θ) (r : Dv S.K H v d) (h : tyD Θ d = some T) : TyX S.K H1 v (.type T) := by
  cases r with
  | non => cases h; exact .base .non
  | bl b => cases h; exact .base (.bl b)
  | int b => cases h; exact .base (.int b)
  | str b => cases h; exact .base (.str b)
  | ty n => cases h
  | lst s q => cases h; exact .base (.lst (R.ex _ _ s))
  | wls s q =>
    cases h
    rcases s with (s | ⟨o, s⟩) | ⟨o, its, n, l, c, _⟩
    · exact .base (.lst (R.ex _ _ s))
    · exact .base (.frz (R.ex _ _ s))
    · exact .kList l c
  | tup s q => cases h; exact .base (.tup (R.ex _ _ s))
  | wtp s q =>
    cases h
    rcases s with (s | ⟨o, s⟩) | ⟨o, its, n, l, c, _⟩
    · exact .base (.tup (R.ex _ _ s))
    · exact .fTuple (R.ex _ _ s)
    · exact .kTuple l c
  | obj a =>
    have h' : (match Θ a with
      | some (.lst _) => some "list"
      | some (.dT _) => some "dict"
      | some (.dK _) => some "dict"
      | _ => none) = some T := h
    cases q : Θ a with
    | none => rw [q] at h'; cases h'
    | some o =>
      rw [q] at h'
      have z := (R.sto a o q).2
      cases o with
      | lst ds => cases h'; obtain ⟨vs, e, _⟩ := z; exact .base (.lst e)
      | ins C fs => cases h'
      | dT ds => cases h'; obtain ⟨vs, e, _⟩ := z; exact .base (.dT e)
      | dK ds => cases h'; obtain ⟨vs, e, _⟩ := z; exact .base (.dK e)
end
end
end Z
/-! ZFlow: tests, targets, statements, what is walked, loops, comprehensions. -/
namespace Z
open PySem PySem.Spec PyProof.Rows L2
section
variable {S : Stat} {e a b c : Expr} {es : List Expr} {Γ Γ' : Gam} {Θ Θ' : Sto} {Post Post' : PoE} {PB : Bool → Sto → Prop} {pos : Pos}
/-! ### tests -/
theorem ev_cmp {op : CmpOp} (h : ec S op a b Γ Θ Post) : ev S (.Compare a [op] [b] pos) Γ Θ Post := by
  obtain ⟨hm, r, ho, q⟩ := h
  exact ev_mk (fun X o => pe_cmpR (ho X o) (w_e o a) (w_e o b) hm) q
theorem et_mk {t : TT} (hp : ∀ X, Ok S X → PT X e t) (h : ∀ σ H H1, Rep S.K σ H H1 Γ Θ → ∀ Q : Bool → Hp → Prop, (∀ b H' H2 Θ', PB b Θ' → Fr Θ H H1 Θ' H' H2 → Rep S.K σ H' H2 Γ Θ' → Q b H2) → t σ H1 Q) : et S e Γ Θ PB :=
  fun σ H H1 R Q k X ok pins s I => (hp X ok).run pins s σ H1 Q I (h σ H H1 R Q k)
theorem et_cmp {op : CmpOp} (h : ec S op a b Γ Θ fun d Θ' => ∃ k, d = .bl k ∧ PB k Θ') : et S (.Compare a [op] [b] pos) Γ Θ PB := by
  obtain ⟨hm, r, ho, q⟩ := h
  refine et_mk (fun X o => pt_cmpR (ho X o) (w_e o a) (w_e o b) hm) fun σ H H1 R Q k => q σ H H1 R _ fun v d H' H2 Θ' ⟨c, ed, p⟩ f R' r => ?_
  subst ed
  cases r
  exact ⟨c, rfl, k _ _ _ _ p f R'⟩
theorem et_val (he : ∀ (env : Env) (whole : Sem Value), isTrue e env whole = (do let v ← whole; standAt e.pos; holding [v] (truthy v))) (h : ev S e Γ Θ fun d Θ' => ∃ k, d = .bl k ∧ PB k Θ') : et S e Γ Θ PB :=
  et_mk (fun X o => pt_val (w_e o e) (he _)) fun σ H H1 R Q k => h σ H H1 R _ fun v d H' H2 Θ' ⟨c, ed, p⟩ f R' r => by
    subst ed
    cases r
    exact ⟨c, rfl, k _ _ _ _ p f R'⟩
theorem ew_mk {t : TT} (hp : ∀ X, Ok S X → PW X e t) (h : ∀ σ H H1, Rep S.K σ H H1 Γ Θ → ∀ Q : Bool → Hp → Prop, (∀ b H' H2 Θ', PB b Θ' → Fr Θ H H1 Θ' H' H2 → Rep S.K σ H' H2 Γ Θ' → Q b H2) → t σ H1 Q) : ew S e Γ Θ PB :=
  fun σ H H1 R Q k X ok whole pins s I => (hp X ok).run whole pins s σ H1 Q I (h σ H H1 R Q k)
theorem et_bo (h : ew S e Γ Θ PB) : et S e Γ Θ PB := et_mk (fun X o => (w_w o e).pt) h
theorem ew_and1 (h : et S a Γ Θ PB) : ew S (.BoolOp .And [a] pos) Γ Θ PB := ew_mk (fun X o => pw_and1 (w_t o a)) h
theorem ew_or1 (h : et S a Γ Θ PB) : ew S (.BoolOp .Or [a] pos) Γ Θ PB := ew_mk (fun X o => pw_or1 (w_t o a)) h
theorem ew_and (h : et S a Γ Θ fun k Θ1 => if k = true then ew S (.BoolOp .And (b :: es) pos) Γ Θ1 PB else PB false Θ1) : ew S (.BoolOp .And (a :: b :: es) pos) Γ Θ PB :=
  ew_mk (fun X o => pw_and (w_t o a) (w_w o _)) fun σ H H1 R Q k => h σ H H1 R _ fun c H' H2 Θ' p f R' => by
    cases c with
    | true =>
      rw [if_pos rfl] at p ⊢
      exact p σ H' H2 R' Q fun b H'' H3 Θ2 p2 f2 R2 => k b _ _ _ p2 (f.trans R' f2) R2
    | false =>
      rw [if_neg Bool.false_ne_true] at p ⊢
      exact k _ _ _ _ p f R'
theorem ew_or (h : et S a Γ Θ fun k Θ1 => if k = true then PB true Θ1 else ew S (.BoolOp .Or (b :: es) pos) Γ Θ1 PB) : ew S (.BoolOp .Or (a :: b :: es) pos) Γ Θ PB :=
  ew_mk (fun X o => pw_or (w_t o a) (w_w o _)) fun σ H H1 R Q k => h σ H H1 R _ fun c H' H2 Θ' p f R' => by
    cases c with
    | false =>
      rw [if_neg Bool.false_ne_true] at p ⊢
      exact p σ H' H2 R' Q fun b H'' H3 Θ2 p2 f2 R2 => k b _ _ _ p2 (f.trans R' f2) R2
    | true =>
      rw [if_pos rfl] at p ⊢
      exact k _ _ _ _ p f R'
theorem et_not (h : et S a Γ Θ fun k Θ1 => PB (!k) Θ1) : et S (.UnaryOp .Not a pos) Γ Θ PB := et_mk (fun X o => pt_not (w_t o a)) fun σ H H1 R Q k => h σ H H1 R _ fun c H' H2 Θ' p f R' => k _ _ _ _ p f R'
theorem ev_not (h : ev S a Γ Θ fun d Θ1 => ∃ k, d = .bl k ∧ Post (.bl (!k)) Θ1) : ev S (.UnaryOp .Not a pos) Γ Θ Post := ev_mk (fun X o => pe_not (w_e o a)) fun σ H H1 R Q k => h σ H H1 R _ fun v d H' H2 Θ' ⟨c, ed, p⟩ f R' r => by
  subst ed
  cases r
  exact ⟨c, rfl, k _ _ _ _ _ p f R' (.bl _)⟩
theorem ev_one {op} (h : ev S a Γ Θ Post) : ev S (.BoolOp op [a] pos) Γ Θ Post := ev_mk (fun X o => pe_one (w_e o a)) h
theorem ev_and (h : ev S a Γ Θ fun d Θ1 => ∃ k, d = .bl k ∧ if k = true then ev S (.BoolOp .And (b :: es) pos) Γ Θ1 Post else Post (.bl false) Θ1) : ev S (.BoolOp .And (a :: b :: es) pos) Γ Θ Post :=
  ev_mk (fun X o => pe_and (w_e o a) (w_e o _)) fun σ H H1 R Q k => h σ H H1 R _ fun v d H' H2 Θ' ⟨c, ed, p⟩ f R' r => by
    subst ed
    cases r
    refine ⟨c, rfl, ?_⟩
    cases c with
    | true =>
      rw [if_pos rfl] at p ⊢
      exact p σ H' H2 R' Q fun v d H'' H3 Θ2 p2 f2 R2 => k v d _ _ _ p2 (f.trans R' f2) R2
    | false =>
      rw [if_neg Bool.false_ne_true] at p ⊢
      exact k _ _ _ _ _ p f R' (.bl _)
theorem ev_or (h : ev S a Γ Θ fun d Θ1 => ∃ k, d = .bl k ∧ if k = true then Post (.bl true) Θ1 else ev S (.BoolOp .Or (b :: es) pos) Γ Θ1 Post) : ev S (.BoolOp .Or (a :: b :: es) pos) Γ Θ Post :=
  ev_mk (fun X o => pe_or (w_e o a) (w_e o _)) fun σ H H1 R Q k => h σ H H1 R _ fun v d H' H2 Θ' ⟨c, ed, p⟩ f R' r => by
    subst ed
    cases r
    refine ⟨c, rfl, ?_⟩
    cases c with
    | false =>
      rw [if_neg Bool.false_ne_true] at p ⊢
      exact p σ H' H2 R' Q fun v d H'' H3 Θ2 p2 f2 R2 => k v d _ _ _ p2 (f.trans R' f2) R2
    | true =>
      rw [if_pos rfl] at p ⊢
      exact k _ _ _ _ _ p f R' (.bl _)
theorem ev_ife (h : et S c Γ Θ fun k Θ1 => if k = true then ev S a Γ Θ1 Post else ev S b Γ Θ1 Post) : ev S (.IfExp c a b pos) Γ Θ Post :=
  ev_mk (fun X o => pe_ifExp (w_t o c) (w_e o a) (w_e o b)) fun σ H H1 R Q k => h σ H H1 R _ fun c H' H2 Θ' p f R' => by
    cases c with
    | true =>
      rw [if_pos rfl] at p ⊢
      exact p σ H' H2 R' Q fun v d H'' H3 Θ2 p2 f2 R2 => k v d _ _ _ p2 (f.trans R' f2) R2
    | false =>
      rw [if_neg Bool.false_ne_true] at p ⊢
      exact p σ H' H2 R' Q fun v d H'' H3 Θ2 p2 f2 R2 => k v d _ _ _ p2 (f.trans R' f2) R2
/-- a op b op' c of ints -/
def opB : CmpOp → Option (Int → Int → Bool)
  | .Lt => some fun i j => decide (i < j)
  | .LtE => some fun i j => decide (i ≤ j)
  | .Gt => some fun i j => decide (j < i)
  | .GtE => some fun i j => decide (j ≤ i)
  | _ => none
theorem opB_ok {op : CmpOp} {g : Int → Int → Bool} (h : opB op = some g) (X : Cx) : OpR X (compareOp op) (rI0 fun i j => .bl (g i j)) := by
  cases op <;> first | (cases h; exact op_lt) | (cases h; exact op_le) | (cases h; exact op_gt) | (cases h; exact op_ge) | cases h
theorem chain_run {op op' : CmpOp} {g g' : Int → Int → Bool} {P3 : Bool → Sto → Prop} {σ : L2.St} {H H1 : Hp} {Q : VK} (R : Rep S.K σ H H1 Γ Θ)
    (h : ev S a Γ Θ fun x Θ1 => ev S b Γ Θ1 fun y Θ2 => ∃ i j, x = .int i ∧ y = .int j ∧ if g i j = true then ev S c Γ Θ2 fun z Θ3 => ∃ l, z = .int l ∧ P3 (g' j l) Θ3 else P3 false Θ2)
    (k : ∀ b H' H2 Θ', P3 b Θ' → Fr Θ H H1 Θ' H' H2 → Rep S.K σ H' H2 Γ Θ' → Q (.bl b) H2) : tChain (rI0 fun i j => .bl (g i j)) (rI0 fun i j => .bl (g' i j)) (wE S a) (wE S b) (wE S c) σ H1 Q :=
  seq2 h R fun v1 v2 d1 d2 H' H3 Θ2 ⟨i, j, e1, e2, p⟩ f R' r1 r2 => by
    subst e1 e2
    cases r1
    cases r2
    refine ⟨i, j, rfl, rfl, g i j, rfl, ?_⟩
    cases q : g i j with
    | true =>
      rw [q] at p
      rw [if_pos rfl] at p ⊢
      refine p σ H' H3 R' _ fun v d H'' H4 Θ3 ⟨l, ed, p3⟩ f3 R3 r3 => ?_
      subst ed
      cases r3
      exact ⟨j, l, rfl, rfl, k _ _ _ _ p3 (f.trans R' f3) R3⟩
    | false =>
      rw [q] at p
      rw [if_neg Bool.false_ne_true] at p ⊢
      exact k _ _ _ _ p f R'
theorem ev_chain {op op' : CmpOp} {g g' : Int → Int → Bool} (ho : opB op = some g) (ho' : opB op' = some g') (h : ev S a Γ Θ fun x Θ1 => ev S b Γ Θ1 fun y Θ2 => ∃ i j, x = .int i ∧ y = .int j ∧ if g i j = true then ev S c Γ Θ2 fun z Θ3 => ∃ l, z = .int l ∧ Post (.bl (g' j l)) Θ3 else Post (.bl false) Θ2)
    (hm : lastMarks [op, op'] [b, c] = false := by with_unfolding_all rfl) : ev S (.Compare a [op, op'] [b, c] pos) Γ Θ Post :=
  ev_mk (fun X o => pe_chain (opB_ok ho X) (opB_ok ho' X) (w_e o a) (w_e o b) (w_e o c) hm) fun σ H H1 R Q k => chain_run (op := op) (op' := op') (P3 := fun b => Post (.bl b)) R h fun b H' H2 Θ' p f R' => k _ _ _ _ _ p f R' (.bl b)
theorem et_chain {op op' : CmpOp} {g g' : Int → Int → Bool} (ho : opB op = some g) (ho' : opB op' = some g') (h : ev S a Γ Θ fun x Θ1 => ev S b Γ Θ1 fun y Θ2 => ∃ i j, x = .int i ∧ y = .int j ∧ if g i j = true then ev S c Γ Θ2 fun z Θ3 => ∃ l, z = .int l ∧ PB (g' j l) Θ3 else PB false Θ2)
    (hm : lastMarks [op, op'] [b, c] = false := by with_unfolding_all rfl) : et S (.Compare a [op, op'] [b, c] pos) Γ Θ PB :=
  et_mk (fun X o => pt_chain (opB_ok ho X) (opB_ok ho' X) (w_e o a) (w_e o b) (w_e o c) hm) fun σ H H1 R Q k => chain_run (op := op) (op' := op') (P3 := PB) R h fun b H' H2 Θ' p f R' => ⟨b, rfl, k _ _ _ _ p f R'⟩

/-! ### targets -/
theorem Ok.loc {X : Cx} {x : Str} (o : Ok S X) (h : Loc S.sc x) : Loc X.env.scope x := by rw [o.sc]; exact h
theorem eg_mk {tg : Expr} {d : Da} {t : TG} {P : Gam → Sto → Prop} (hp : ∀ X, Ok S X → PG X tg t)
    (h : ∀ σ H H1 v, Rep S.K σ H H1 Γ Θ → Dv S.K H v d → ∀ Q : L2.St → Hp → Prop, (∀ σ' Γ' H' H2 Θ', P Γ' Θ' → Fr Θ H H1 Θ' H' H2 → Rep S.K σ' H' H2 Γ' Θ' → Q σ' H2) → t v σ H1 Q) : eg S tg d Γ Θ P :=
  fun σ H H1 v R r Q k X ok pins s u I ru => (hp X ok).run pins s σ H1 v u Q I ru (h σ H H1 v R r Q k)
theorem eg_name {i : Nat} {x : Str} {d : Da} {P : Gam → Sto → Prop} (hN : S.N.Nodup) (hi : S.N[i]? = some x) (hx : Loc S.sc x) (h : P (Γ.set i (some d)) Θ) (hf : S.fn x = true ∨ S.sc.names.lookup x = some .local := by first | exact .inl rfl | exact .inr rfl) : eg S (.Name x pos) d Γ Θ P :=
  eg_mk (t := gName i) (fun X o => pg_name (by rw [o.N]; exact hN) (by rw [o.N]; exact hi) (o.loc hx) (by rw [o.fn, o.sc]; exact hf)) fun σ H H1 v R r Q k => k _ _ _ _ _ h Fr.refl (R.set r)
/-- no star in a target -/
abbrev PlainTg (tg : Expr) : Prop := ∀ (tgs : List Expr) (env : Env), (assignEach (tg :: tgs) env).map (·.2) = assign tg env :: (assignEach tgs env).map (·.2)
def egs (S : Stat) : List Expr → List Da → Gam → Sto → (Gam → Sto → Prop) → Prop
  | [], ds, Γ, Θ, P => ds = [] ∧ P Γ Θ
  | tg :: tgs, ds, Γ, Θ, P => ∃ d r, ds = d :: r ∧ eg S tg d Γ Θ fun Γ1 Θ1 => egs S tgs r Γ1 Θ1 P
def wGs (S : Stat) : List Expr → TGs
  | [] => gNil
  | tg :: tgs => gCons (wG S tg) (wGs S tgs)
def PlainTgs : List Expr → Prop
  | [] => True
  | tg :: tgs => PlainTg tg ∧ PlainTgs tgs
theorem w_gs {X : Cx} (o : Ok S X) : ∀ tgs : List Expr, PlainTgs tgs → PGs X tgs (wGs S tgs)
  | [], _ => pgs_nil
  | tg :: tgs, h => pgs_cons (w_g o tg) (w_gs o tgs h.2) (h.1 tgs _)
theorem egs_run : ∀ {tgs : List Expr} {ds : List Da} {Γ : Gam} {Θ : Sto} {P : Gam → Sto → Prop} {σ : L2.St} {H H1 : Hp} {vs : List V} {Q : L2.St → Hp → Prop}, egs S tgs ds Γ Θ P → Rep S.K σ H H1 Γ Θ → DvAll S.K H vs ds →
    (∀ σ' Γ' H' H2 Θ', P Γ' Θ' → Fr Θ H H1 Θ' H' H2 → Rep S.K σ' H' H2 Γ' Θ' → Q σ' H2) → wGs S tgs vs σ H1 Q
  | [], _, _, _, _, _, _, _, _, _, ⟨e, p⟩, R, r, k => by
    subst e
    cases r
    exact ⟨rfl, k _ _ _ _ _ p Fr.refl R⟩
  | tg :: tgs, _, _, _, _, _, _, _, _, _, ⟨d, r, e, h⟩, R, rs, k => by
    subst e
    cases rs with
    | cons r1 r2 =>
      exact ⟨_, _, rfl, h _ _ _ _ R r1 _ fun σ' Γ' H' H2 Θ' q f R' => egs_run q R' (r2.mono f.ke) fun σ'' Γ'' H'' H3 Θ'' p f2 R2 => k _ _ _ _ _ p (f.trans R' f2) R2⟩
theorem eg_tup {kk : Nat} {ds : List Da} {P : Gam → Sto → Prop} {n : Nat} (hl : ds.length = n) (h : egs S es ds Γ Θ P) (hp : PlainTgs es := by repeat (first | exact True.intro | refine ⟨fun _ _ => rfl, ?_⟩)) (hn : ∀ env : Env, (assignEach es env).length = n := by intro _; rfl) (hst : ∀ env : Env, (assignEach es env).findIdx? (·.1) = none := by intro _; rfl) : eg S (.Tuple es kk pos) (.tup ds) Γ Θ P :=
  eg_mk (t := gTup S.K n (wGs S es)) (fun X o => o.K ▸ pg_tup o.calm (w_gs o es hp) (hn _) (hst _)) fun σ H H1 v R r Q k => by
    cases r with
    | tup s q => exact ⟨_, _, rfl, .inl (.inl (R.ex _ _ s)), by rw [q.length]; exact hl, egs_run h R q k⟩
theorem eg_lst {kk : Nat} {ds : List Da} {P : Gam → Sto → Prop} {n : Nat} (hl : ds.length = n) (h : egs S es ds Γ Θ P) (hp : PlainTgs es := by repeat (first | exact True.intro | refine ⟨fun _ _ => rfl, ?_⟩)) (hn : ∀ env : Env, (assignEach es env).length = n := by intro _; rfl) (hst : ∀ env : Env, (assignEach es env).findIdx? (·.1) = none := by intro _; rfl) : eg S (.Tuple es kk pos) (.lst ds) Γ Θ P :=
  eg_mk (t := gUnl S.K n (wGs S es)) (fun X o => o.K ▸ pg_unl o.calm (w_gs o es hp) (hn _) (hst _)) fun σ H H1 v R r Q k => by
    cases r with
    | lst s q => exact ⟨_, _, rfl, .inl (.inl (R.ex _ _ s)), by rw [q.length]; exact hl, egs_run h R q k⟩
/-- o[i] = d, o a list of the store -/
theorem eg_sub {o i : Expr} {d : Da} {P : Gam → Sto → Prop} (h : ev S o Γ Θ fun x Θ1 => ev S i Γ Θ1 fun y Θ2 => ∃ p ds k j, x = .obj p ∧ y = .int k ∧ Θ2 p = some (.lst ds) ∧ ixN ds.length k = some j ∧ P Γ (updS Θ2 p (.lst (ds.set j d))))
    (ha : ∀ (env : Env) (v : Value), assign (.Subscript o i pos) env v = (do
      let ov ← holding [v] (eval o env)
      let iv ← holding [v, ov] (eval i env)
      standAt pos
      holding [v, ov, iv] (setItem ov iv v)
      release [v, ov, iv] []) := by intro _ _; rfl) : eg S (.Subscript o i pos) d Γ Θ P :=
  eg_mk (t := gSub (wE S o) (wE S i) rSetL) (fun X ok => pg_sub (w_e ok o) (w_e ok i) set_list (ha _)) fun σ H H1 v R r Q k => seq2 h R fun v1 v2 d1 d2 H' H3 Θ2 ⟨p, ds, n, j, e1, e2, hp, hi, po⟩ f R' r1 r2 => by
    subst e1 e2
    cases r1
    cases r2
    obtain ⟨n1, vs, e, rs⟩ := R'.sto p _ hp
    refine ⟨p, vs, n, j, rfl, rfl, e, by rw [rs.length]; exact hi, k _ _ _ _ _ po (f.trans R' (Fr.chg hp)) (R'.chg hp ⟨_, upd_same, rs.set (r.mono f.ke)⟩)⟩

theorem ea1 {P1 : Da → Sto → Prop} (h : ev S a Γ Θ P1) (hs : NoStar a) : ea S [a] Γ Θ fun ds Θ1 => ∃ d, ds = [d] ∧ P1 d Θ1 := ea_cons (P := fun ds Θ1 => ∃ d, ds = [d] ∧ P1 d Θ1) (h.imp fun d Θ1 q => ea_nil ⟨d, rfl, q⟩) hs
theorem ea2 {P2 : Da → Da → Sto → Prop} (h : ev S a Γ Θ fun d Θ1 => ev S b Γ Θ1 fun d2 Θ2 => P2 d d2 Θ2) (hs : NoStar a) (hs2 : NoStar b) : ea S [a, b] Γ Θ fun ds Θ1 => ∃ d d2, ds = [d, d2] ∧ P2 d d2 Θ1 :=
  ea_cons (P := fun ds Θ1 => ∃ d d2, ds = [d, d2] ∧ P2 d d2 Θ1) (h.imp fun d Θ1 q => ea_cons (P := fun ds Θ1 => ∃ d0 d2, d :: ds = [d0, d2] ∧ P2 d0 d2 Θ1) (q.imp fun d2 Θ2 p => ea_nil ⟨d, d2, rfl, p⟩) hs2) hs
/-! ### statements -/
section
variable {D : DE} {st : Stmt} {ss : List Stmt}
theorem EndsOk.step {K : Frag} {σ : L2.St} {H H' H1 H2 : Hp} {E : Ends} (k : EndsOk K Θ H H1 D E) (f : Fr Θ H H1 Θ' H' H2) (R : Rep K σ H' H2 Γ Θ') : EndsOk K Θ' H' H2 D E :=
  ⟨fun _ _ _ _ _ p f2 R2 => k.nx _ _ _ _ _ p (f.trans R f2) R2, fun _ _ _ _ _ p f2 R2 r => k.rt _ _ _ _ _ p (f.trans R f2) R2 r, fun _ _ _ _ _ p f2 R2 => k.bk _ _ _ _ _ p (f.trans R f2) R2, fun _ _ _ _ _ p f2 R2 => k.ct _ _ _ _ _ p (f.trans R f2) R2⟩
theorem ex_mk {t : TS} (hp : ∀ X, Ok S X → PSs X ss t) (h : ∀ σ H H1, Rep S.K σ H H1 Γ Θ → ∀ E : Ends, EndsOk S.K Θ H H1 D E → t E σ H1) : ex S ss Γ Θ D := fun σ H H1 R E k X ok pins s I => (hp X ok).run pins s σ H1 E I (h σ H H1 R E k)
theorem ex1_mk {t : TS} (hp : ∀ X, Ok S X → PS X st t) (h : ∀ σ H H1, Rep S.K σ H H1 Γ Θ → ∀ E : Ends, EndsOk S.K Θ H H1 D E → t E σ H1) : ex1 S st Γ Θ D := fun σ H H1 R E k X ok pins s I => (hp X ok).run pins s σ H1 E I (h σ H H1 R E k)
theorem ex_nil (h : D.nx Γ Θ) : ex S [] Γ Θ D := ex_mk (fun X o => pss_nil) fun σ H H1 R E k => k.nx _ _ _ _ _ h Fr.refl R
theorem ex_cons (h : ex1 S st Γ Θ { D with nx := fun Γ' Θ' => ex S ss Γ' Θ' D }) : ex S (st :: ss) Γ Θ D :=
  ex_mk (fun X o => pss_cons (w_s o st) (w_ss o ss)) fun σ H H1 R E k => h σ H H1 R _ ⟨fun _ _ _ _ _ q f R' => q _ _ _ R' E (k.step f R'), k.rt, k.bk, k.ct⟩
theorem ex_one (h : ex1 S st Γ Θ D) : ex S [st] Γ Θ D := ex_mk (fun X o => pss_one (w_s o st)) h
theorem ex_drop (hl : LeS Θ' Θ) (h : ex S ss Γ Θ' D) : ex S ss Γ Θ D := fun σ H H1 R E k => h σ H H1 (R.le hl) E (k.step (Fr.refl.le hl) (R.le hl))
/-- slot i's list changes no more -/
theorem ex_frz {i : Nat} {p : Addr} {ds : List Da} (hi : Γ[i]? = some (some (.obj p))) (hp : Θ p = some (.lst ds)) (h : ex S ss (Γ.set i (some (.lst ds))) (delS Θ p) D) : ex S ss Γ Θ D := fun σ H H1 R E k => by
  obtain ⟨v, hv, r⟩ := R.env i _ hi
  cases r
  obtain ⟨vs, e, R2, f2, r2⟩ := R.frz hp
  have R3 := R2.set (i := i) r2
  have es : σ.set i (some (.ref p)) = σ := List.ext_getElem? fun j => by
    by_cases q : i = j
    · subst q
      rw [List.getElem?_set_self (List.getElem?_eq_some_iff.mp hv).1, hv]
    · rw [List.getElem?_set_ne q]
  rw [es] at R3
  exact h σ _ _ R3 E (k.step f2 R3)
theorem ex1_asg {tg : Expr} (h : ev S e Γ Θ fun d Θ1 => eg S tg d Γ Θ1 D.nx) (hs : ∀ env : Env, swapsWithSole [tg] e pos.line env = pure false := by intro _; rfl) (hw : ∀ env : Env, swappedStores [tg] e env = pure none := by intro _; rfl) (h1 : PlainTg tg := by intro _ _; rfl) : ex1 S (.Assign [tg] e pos) Γ Θ D :=
  ex1_mk (fun X o => ps_asg (w_e o e) (w_g o tg) (hs _) (hw _) (h1 [] _)) fun σ H H1 R E k => h σ H H1 R _ fun v d H' H2 Θ1 g f R' r => g σ H' H2 v R' r _ fun σ' Γ' H'' H3 Θ2 p f2 R2 => k.nx _ _ _ _ _ p (f.trans R' f2) R2
theorem ex1_expr (h : ev S e Γ Θ fun _ Θ1 => D.nx Γ Θ1) (hs : ∀ env : Env, swapsWith e none pos.line env = pure false := by intro _; rfl) : ex1 S (.Expr e pos) Γ Θ D :=
  ex1_mk (fun X o => ps_expr (w_e o e) (hs _)) fun σ H H1 R E k => h σ H H1 R _ fun v d H' H2 Θ1 g f R' r => k.nx _ _ _ _ _ g f R'
theorem Rep.bare {K : Frag} {σ : L2.St} {H H1 : Hp} (R : Rep K σ H H1 Γ Θ) : Rep K [] H H1 [] Θ := ⟨R.ex, rfl, fun _ _ e => by simp at e, R.sto⟩
theorem ex1_ret (h : ev S e Γ Θ D.rt) : ex1 S (.Return (some e) pos) Γ Θ D :=
  ex1_mk (fun X o => ps_ret (w_e o e)) fun σ H H1 R E k => h σ H H1 R _ fun v d H' H2 Θ1 g f R' r => k.rt _ _ _ _ _ g f R'.bare r
theorem ex1_retN (h : D.rt .non Θ) : ex1 S (.Return none pos) Γ Θ D := ex1_mk (fun X o => ps_retN) fun σ H H1 R E k => k.rt _ _ _ _ _ h Fr.refl R.bare .non
theorem ex1_pass (h : D.nx Γ Θ) : ex1 S (.Pass pos) Γ Θ D := ex1_mk (fun X o => ps_pass) fun σ H H1 R E k => k.nx _ _ _ _ _ h Fr.refl R
theorem ex1_cont (h : D.ct Γ Θ) : ex1 S (.Continue pos) Γ Θ D := ex1_mk (fun X o => ps_continue) fun σ H H1 R E k => k.ct _ _ _ _ _ h Fr.refl R
theorem ex1_break (h : D.bk Γ Θ) : ex1 S (.Break pos) Γ Θ D := ex1_mk (fun X o => ps_break) fun σ H H1 R E k => k.bk _ _ _ _ _ h Fr.refl R
theorem ex1_if {s1 s2 : List Stmt} (h : et S c Γ Θ fun k Θ1 => if k = true then ex S s1 Γ Θ1 D else ex S s2 Γ Θ1 D) : ex1 S (.If c s1 s2 pos) Γ Θ D :=
  ex1_mk (fun X o => ps_if (w_t o c) (w_ss o s1) (w_ss o s2)) fun σ H H1 R E k => h σ H H1 R _ fun c H' H2 Θ' p f R' => by
    cases c with
    | true =>
      rw [if_pos rfl] at p ⊢
      exact p σ H' H2 R' E (k.step f R')
    | false =>
      rw [if_neg Bool.false_ne_true] at p ⊢
      exact p σ H' H2 R' E (k.step f R')
theorem ex1_par {i j : Nat} {x y : Str} {a b : Expr} {px py pt : Pos} {kt k2 : Nat} {pt2 : Pos} (hN : S.N.Nodup) (hi : S.N[i]? = some x) (hj : S.N[j]? = some y) (hij : i ≠ j)
    (h : ev S a Γ Θ fun d1 Θ1 => ev S b Γ Θ1 fun d2 Θ2 => D.nx ((Γ.set i (some d1)).set j (some d2)) Θ2)
    (hp : ∀ X, Ok S X → PS X (.Assign [.Tuple [.Name x px, .Name y py] kt pt] (.Tuple [a, b] k2 pt2) pos) (tPar i j (wA S [a, b]))) (hs : NoStar a := by intro _ _; rfl) (hs2 : NoStar b := by intro _ _; rfl) : ex1 S (.Assign [.Tuple [.Name x px, .Name y py] kt pt] (.Tuple [a, b] k2 pt2) pos) Γ Θ D :=
  ex1_mk hp fun σ H H1 R E k => ea2 h hs hs2 σ H H1 R _ fun vs ds H' H2 Θ2 ⟨d1, d2, ed, q⟩ f R' rs => by
    subst ed
    cases rs with
    | cons r1 r2 =>
      cases r2 with
      | cons r2 r3 =>
        cases r3
        exact ⟨_, _, rfl, k.nx _ _ _ _ _ q f ((R'.set r1).set r2)⟩
theorem ex1_while {body : List Stmt} (I : Gam → Sto → Prop) (μ : Gam → Sto → Nat) (h0 : I Γ Θ)
    (hs : ∀ Γ1 Θ1, I Γ1 Θ1 → et S c Γ1 Θ1 fun k Θ2 => if k = true then ex S body Γ1 Θ2 { nx := fun Γ2 Θ3 => I Γ2 Θ3 ∧ μ Γ2 Θ3 < μ Γ1 Θ1, ct := fun Γ2 Θ3 => I Γ2 Θ3 ∧ μ Γ2 Θ3 < μ Γ1 Θ1, bk := D.nx, rt := D.rt } else D.nx Γ1 Θ2) : ex1 S (.While c body [] pos) Γ Θ D :=
  ex1_mk (fun X o => ps_while o.pas (w_t o c) (w_ss o body)) fun σ H H1 R E k => by
    refine ⟨fun m σ1 H3 => ∃ Γ1 Θ1 H2, m = μ Γ1 Θ1 ∧ I Γ1 Θ1 ∧ Fr Θ H H1 Θ1 H2 H3 ∧ Rep S.K σ1 H2 H3 Γ1 Θ1, ⟨_, Γ, Θ, H, rfl, h0, Fr.refl, R⟩, ?_⟩
    rintro m σ1 H3 ⟨Γ1, Θ1, H2, rfl, hI, f1, R1⟩
    refine hs Γ1 Θ1 hI σ1 H2 H3 R1 _ fun b H' H4 Θ2 p f R2 => ?_
    have f12 := f1.trans R1 f
    cases b with
    | false =>
      rw [if_neg Bool.false_ne_true] at p ⊢
      exact k.nx _ _ _ _ _ p f12 R2
    | true =>
      rw [if_pos rfl] at p ⊢
      refine ⟨fun σ' H5 => ∃ Γ2 Θ3 H6, (I Γ2 Θ3 ∧ μ Γ2 Θ3 < μ Γ1 Θ1) ∧ Fr Θ H H1 Θ3 H6 H5 ∧ Rep S.K σ' H6 H5 Γ2 Θ3, ?_, ?_⟩
      · rintro σ' H5 ⟨Γ2, Θ3, H6, ⟨i2, l2⟩, f2, R3⟩
        exact ⟨_, l2, Γ2, Θ3, H6, rfl, i2, f2, R3⟩
      · exact p σ1 H' H4 R2 _ ⟨fun _ _ _ _ _ q f3 R3 => ⟨_, _, _, q, f12.trans R2 f3, R3⟩, fun _ _ _ _ _ q f3 R3 r => k.rt _ _ _ _ _ q (f12.trans R2 f3) R3 r, fun _ _ _ _ _ q f3 R3 => k.nx _ _ _ _ _ q (f12.trans R2 f3) R3, fun _ _ _ _ _ q f3 R3 => ⟨_, _, _, q, f12.trans R2 f3, R3⟩⟩
end

/-! ### what is walked -/
def wI (S : Stat) (tg it : Expr) : TI := fun σ H R => ∀ X, Ok S X → ∀ pins s, Inv X pins σ H s → wpAny (model X.prog X.w) X.A (eval it X.env) (fun v s1 => wpAny (model X.prog X.w) X.A (pyIter v) (PIE X pins σ tg R) X.xe s1) X.xe s
theorem w_i {X : Cx} (o : Ok S X) (tg it : Expr) : PI X tg it (wI S tg it) := ⟨fun pins s _ _ _ I h => h X o pins s I⟩
/-- what J gives are the things ds, one after another -/
def Yields (K : Frag) (J : It) (ds : List Da) (Θ : Sto) (H0 H00 : Hp) : Prop := ∀ Θ1 H' H1, Fr Θ H0 H00 Θ1 H' H1 → Same H' H1 → J.stop ds.length H1 ∧ ∀ i x, ds[i]? = some x → J.go i H1 ∧ ∀ v H2, J.yld i H1 v H2 →
  ∃ H'', Same H' H'' ∧ Same H'' H2 ∧ Same H1 H2 ∧ (∀ b, H'' b ≠ none → H' b ≠ none ∨ H1 b = none) ∧ Dv K H'' v x
def ei (S : Stat) (tg it : Expr) (Γ : Gam) (Θ : Sto) (Post : List Da → Sto → Prop) : Prop :=
  ∀ σ H H1, Rep S.K σ H H1 Γ Θ → ∀ R : It → Hp → Prop, (∀ J ds H' H2 Θ', Post ds Θ' → Fr Θ H H1 Θ' H' H2 → Rep S.K σ H' H2 Γ Θ' → Yields S.K J ds Θ' H' H2 → R J H2) → wI S tg it σ H1 R
theorem Rep.ext {K : Frag} {σ : L2.St} {H' H'' H1 H2 : Hp} (R : Rep K σ H' H1 Γ Θ) (a : Same H' H'') (b : Same H'' H2) (c : Same H1 H2) (d : ∀ b, H'' b ≠ none → H' b ≠ none ∨ H1 b = none) : Rep K σ H'' H2 Γ Θ ∧ Fr Θ H' H1 Θ H'' H2 := by
  refine ⟨⟨b, R.len, fun i d e => ?_, fun q o e => ?_⟩, ⟨a, fun x o _ e => c x o e, fun x o e => ⟨o, c x o e⟩, fun x h => ?_⟩⟩
  · obtain ⟨v, hv, r⟩ := R.env i d e
    exact ⟨v, hv, r.mono a⟩
  · obtain ⟨n, ok⟩ := R.sto q o e
    refine ⟨?_, ok.mono a fun u => c q u⟩
    cases z : H'' q with
    | none => rfl
    | some u =>
      rcases d q (by rw [z]; simp) with h | h
      · exact absurd n h
      · obtain ⟨w, hw⟩ := ok.has
        rw [h] at hw; cases hw
  · rcases h with h | h
    · rcases d x h with h | h
      · exact .inl h
      · exact .inr (.inr h)
    · exact .inr (.inl h)
theorem ei_mk {tg it : Expr} {t : TI} {P : List Da → Sto → Prop} (hp : ∀ X, Ok S X → PI X tg it t)
    (h : ∀ σ H H1, Rep S.K σ H H1 Γ Θ → ∀ R : It → Hp → Prop, (∀ J ds H' H2 Θ', P ds Θ' → Fr Θ H H1 Θ' H' H2 → Rep S.K σ H' H2 Γ Θ' → Yields S.K J ds Θ' H' H2 → R J H2) → t σ H1 R) : ei S tg it Γ Θ P :=
  fun σ H H1 R Q k X ok pins s I => (hp X ok).run pins s σ H1 Q I (h σ H H1 R Q k)
theorem yields_list {K : Frag} {H H00 : Hp} {p : Addr} {xs : List V} {ds : List Da} (s : SqL K H p xs) (r : DvAll K H xs ds) : Yields K (Itl K p) ds Θ H H00 := fun Θ1 H' H1 f b => by
  have a := f.ke
  exact
  ⟨⟨xs, b.seq (a.seq s), by rw [r.length]; exact Nat.le_refl _⟩, fun i x hx => by
    obtain ⟨v, hv, rv⟩ := r.getd hx
    refine ⟨⟨xs, v, b.seq (a.seq s), hv⟩, fun u H2 y => ?_⟩
    obtain ⟨rfl, y⟩ := y
    have e := y xs (b.seq (a.seq s))
    rw [hv] at e
    cases e
    exact ⟨H', Same.refl _, b, Same.refl _, fun _ h => .inl h, rv.mono a⟩⟩
theorem yields_tup {K : Frag} {H H00 : Hp} {p : Addr} {xs : List V} {ds : List Da} (s : SqT K H p xs) (r : DvAll K H xs ds) : Yields K (Itt K p) ds Θ H H00 := fun Θ1 H' H1 f b => by
  have a := f.ke
  exact
  ⟨⟨xs, seqT b (seqT a s), by rw [r.length]; exact Nat.le_refl _⟩, fun i x hx => by
    obtain ⟨v, hv, rv⟩ := r.getd hx
    refine ⟨⟨xs, v, seqT b (seqT a s), hv⟩, fun u H2 y => ?_⟩
    obtain ⟨rfl, y⟩ := y
    have e := y xs (seqT b (seqT a s))
    rw [hv] at e
    cases e
    exact ⟨H', Same.refl _, b, Same.refl _, fun _ h => .inl h, rv.mono a⟩⟩
theorem ei_lst {tg it : Expr} {P : List Da → Sto → Prop} (h : ev S it Γ Θ fun d Θ' => ∃ ds, (d = .lst ds ∨ d = .wls ds) ∧ P ds Θ') : ei S tg it Γ Θ P :=
  ei_mk (t := iList S.K (wE S it)) (fun X o => o.K ▸ pi_list (w_e o it)) fun σ H H1 R Q k => h σ H H1 R _ fun v d H' H2 Θ' ⟨ds, ed, p⟩ f R' r => by
    rcases ed with ed | ed
    · subst ed
      cases r with
      | lst s q => exact ⟨_, rfl, ⟨_, .inl (.inl (R'.ex _ _ s))⟩, k _ _ _ _ _ p f R' (yields_list (.inl (.inl s)) q)⟩
    · subst ed
      cases r with
      | wls s q => exact ⟨_, rfl, ⟨_, R'.ex.seq s⟩, k _ _ _ _ _ p f R' (yields_list s q)⟩
theorem ei_tup {tg it : Expr} {P : List Da → Sto → Prop} (h : ev S it Γ Θ fun d Θ' => ∃ ds, (d = .tup ds ∨ d = .wtp ds) ∧ P ds Θ') : ei S tg it Γ Θ P :=
  ei_mk (t := iTup S.K (wE S it)) (fun X o => o.K ▸ pi_tup (w_e o it)) fun σ H H1 R Q k => h σ H H1 R _ fun v d H' H2 Θ' ⟨ds, ed, p⟩ f R' r => by
    rcases ed with ed | ed
    · subst ed
      cases r with
      | tup s q => exact ⟨_, rfl, ⟨_, .inl (.inl (R'.ex _ _ s))⟩, k _ _ _ _ _ p f R' (yields_tup (.inl (.inl s)) q)⟩
    · subst ed
      cases r with
      | wtp s q => exact ⟨_, rfl, ⟨_, seqT R'.ex s⟩, k _ _ _ _ _ p f R' (yields_tup s q)⟩
def rngD (lo : Int) (n : Nat) : List Da := (List.range n).map fun (i : Nat) => Da.int (lo + (i : Int))
theorem rngD_len (lo : Int) (n : Nat) : (rngD lo n).length = n := by unfold rngD; simp
theorem rngD_get {lo : Int} {n i : Nat} {x : Da} (h : (rngD lo n)[i]? = some x) : i < n ∧ x = .int (lo + (i : Int)) := by
  unfold rngD at h
  rw [List.getElem?_map] at h
  by_cases q : i < n
  · rw [List.getElem?_range q] at h
    exact ⟨q, (Option.some.inj h).symm⟩
  · rw [List.getElem?_eq_none (by simpa using q)] at h
    cases h
theorem yields_rng {K : Frag} {H H00 : Hp} {lo : Int} {n : Nat} : Yields K (Itr lo n) (rngD lo n) Θ H H00 := fun Θ1 H' H1 f b =>
  ⟨by rw [rngD_len]; exact Nat.le_refl n, fun i x hx => by
    obtain ⟨hi, rfl⟩ := rngD_get hx
    refine ⟨hi, fun v H2 ⟨e, ev⟩ => ?_⟩
    subst e ev
    exact ⟨H', Same.refl _, b, Same.refl _, fun _ h => .inl h, .int _⟩⟩
theorem ei_range1 {tg : Expr} {p : Pos} {P : List Da → Sto → Prop} (hx : Bs S "range" (.type "range")) (h : ev S e Γ Θ fun d Θ' => ∃ n : Int, d = .int n ∧ -(2 ^ 62) ≤ n ∧ n < 2 ^ 62 ∧ P (rngD 0 n.toNat) Θ') (hs : NoStar e := by intro _ _; rfl) : ei S tg (.Call (.Name "range" p) [e] [] pos) Γ Θ P :=
  ei_mk (fun X o => pi_range1 (o.gl hx.1) (by rw [o.mg]; exact hx.2.1) (w_a o _) (hs _ _)) fun σ H H1 R Q k => ea1 h hs σ H H1 R _ fun vs ds H' H2 Θ' ⟨d, ed, n, e2, l, u, po⟩ f R' r => by
    subst e2
    subst ed
    cases r with
    | cons r1 r2 =>
      cases r2
      cases r1
      exact ⟨n, rfl, l, u, k _ _ _ _ _ po f R' yields_rng⟩
theorem ei_range2 {tg : Expr} {p : Pos} {P : List Da → Sto → Prop} (hx : Bs S "range" (.type "range")) (h : ev S a Γ Θ fun d Θ1 => ev S b Γ Θ1 fun d2 Θ2 => ∃ i n : Int, d = .int i ∧ d2 = .int n ∧ (-(2 ^ 62) ≤ i ∧ i < 2 ^ 62 ∧ -(2 ^ 62) ≤ n ∧ n < 2 ^ 62) ∧ P (rngD i (n - i).toNat) Θ2) (hs : NoStar a := by intro _ _; rfl) (hs2 : NoStar b := by intro _ _; rfl) : ei S tg (.Call (.Name "range" p) [a, b] [] pos) Γ Θ P :=
  ei_mk (fun X o => pi_range2 (o.gl hx.1) (by rw [o.mg]; exact hx.2.1) (w_a o _) (by rw [hs, hs2]; rfl) (hs2 _ _)) fun σ H H1 R Q k => ea2 h hs hs2 σ H H1 R _ fun vs ds H' H2 Θ' ⟨d, d2, ed, i, n, e1, e2, l, po⟩ f R' r => by
    subst e1 e2
    subst ed
    cases r with
    | cons r1 r2 =>
      cases r2 with
      | cons r2 r3 =>
        cases r3
        cases r2
        cases r1
        exact ⟨i, n, rfl, l, k _ _ _ _ _ po f R' yields_rng⟩

/-! ### for -/
theorem ex1_for {tg it : Expr} {body : List Stmt} {D : DE} (I : List Da → Nat → Gam → Sto → Prop)
    (h : ei S tg it Γ Θ fun ds Θ1 => I ds 0 Γ Θ1 ∧ (∀ i x Γ1 Θ2, ds[i]? = some x → I ds i Γ1 Θ2 → eg S tg x Γ1 Θ2 fun Γ2 Θ3 => ex S body Γ2 Θ3 { nx := I ds (i + 1), ct := I ds (i + 1), bk := D.nx, rt := D.rt }) ∧ ∀ Γ1 Θ2, I ds ds.length Γ1 Θ2 → D.nx Γ1 Θ2)
    (hs : ∀ (env : Env) (x : Value), foldedSetIterable it env x = pure x := by intro _ _; rfl) : ex1 S (.For tg it body [] pos) Γ Θ D :=
  ex1_mk (fun X o => ps_for o.pas o.calm (w_i o tg it) (w_g o tg) (w_ss o body) (hs _)) fun σ H H1 R E k => h σ H H1 R _ fun J ds H' H2 Θ1 ⟨i0, step, done⟩ f0 R0 Y => by
    refine ⟨fun i m σ1 H3 => m = ds.length - i ∧ i ≤ ds.length ∧ ∃ Γ1 Θ2 H4, I ds i Γ1 Θ2 ∧ Fr Θ1 H' H2 Θ2 H4 H3 ∧ Rep S.K σ1 H4 H3 Γ1 Θ2, ⟨_, rfl, Nat.zero_le _, Γ, Θ1, H', i0, Fr.refl, R0⟩, ?_⟩
    rintro i m σ1 H3 ⟨rfl, hi, Γ1, Θ2, H4, hI, f1, R1⟩
    obtain ⟨stop, go⟩ := Y Θ2 H4 H3 f1 R1.ex
    by_cases hlt : i < ds.length
    · have hx : ds[i]? = some ds[i] := List.getElem?_eq_getElem hlt
      obtain ⟨g1, yl⟩ := go i _ hx
      refine .inr ⟨g1, fun σ' H5 => ∃ Γ2 Θ3 H6, I ds (i + 1) Γ2 Θ3 ∧ Fr Θ1 H' H2 Θ3 H6 H5 ∧ Rep S.K σ' H6 H5 Γ2 Θ3, fun σ' H5 ⟨Γ2, Θ3, H6, i2, f2, R2⟩ => ⟨ds.length - (i + 1), by omega, rfl, hlt, Γ2, Θ3, H6, i2, f2, R2⟩, fun v H5 y => ?_⟩
      obtain ⟨H6, s1, s2, s3, nw, rv⟩ := yl v H5 y
      obtain ⟨R2, f2⟩ := R1.ext s1 s2 s3 nw
      have f12 := f1.trans R1 f2
      refine step i _ Γ1 Θ2 hx hI σ1 H6 H5 v R2 rv _ fun σ' Γ2 H7 H8 Θ3 q f3 R3 => ?_
      have f13 := f12.trans R2 f3
      exact q σ' H7 H8 R3 _ ⟨fun _ _ _ _ _ p f4 R4 => ⟨_, _, _, p, f13.trans R3 f4, R4⟩, fun _ _ _ _ _ p f4 R4 r => k.rt _ _ _ _ _ p (f0.trans R0 (f13.trans R3 f4)) R4 r, fun _ _ _ _ _ p f4 R4 => k.nx _ _ _ _ _ p (f0.trans R0 (f13.trans R3 f4)) R4, fun _ _ _ _ _ p f4 R4 => ⟨_, _, _, p, f13.trans R3 f4, R4⟩⟩
    · have e : i = ds.length := by omega
      subst e
      exact .inl ⟨stop, k.nx _ _ _ _ _ (done _ _ hI) (f0.trans R0 f1) R1⟩
end
end Z
/-! ZComp: comprehensions, enumerate, zip; defs and their calls. -/
namespace Z
open PySem PySem.Spec PyProof.Rows L2
section
variable {S : Stat} {e a b c elt : Expr} {es ifs : List Expr} {Γ Γ' : Gam} {Θ Θ' : Sto} {Post Post' : PoE} {PB : Bool → Sto → Prop} {pos : Pos}
/-! ### comprehensions -/
abbrev Stat.blk (S : Stat) (scope : Scope) : Stat := { S with sc := relS scope S.sc, fn := fun x => scope.names.lookup x == some .cell }
theorem Ok.blk {X : Cx} {scope : Scope} (o : Ok S X) (s : Shared) (H : Hp) (C : Addr) (cl : List (Str × Addr)) (fp : List Addr) : Ok (S.blk scope) (X.blk s H scope (compEnvC scope cl C X.env) fp) where
  P := o.P
  w := o.w
  K := o.K
  mg := o.mg
  base := o.base
  room := o.room
  gd := o.gd
  N := o.N
  sc := by
    show relabel scope X.env = relS scope S.sc
    rw [← o.sc]
    rfl
  fn := rfl
  calm := o.calm
  pas := PassesOwn.never
def wipeG (Γ : Gam) : List Nat → Gam
  | [] => Γ
  | v :: vs => (wipeG Γ vs).set v none
theorem wipeG_length (Γ : Gam) : ∀ vs : List Nat, (wipeG Γ vs).length = Γ.length
  | [] => rfl
  | v :: vs => by unfold wipeG; rw [List.length_set, wipeG_length Γ vs]
theorem wipe_env {K : Frag} {σ : L2.St} {H : Hp} (h : ∀ (i : Nat) (d : Da), Γ[i]? = some (some d) → ∃ v, σ[i]? = some (some v) ∧ Dv K H v d) : ∀ (vs : List Nat) (i : Nat) (d : Da), (wipeG Γ vs)[i]? = some (some d) → ∃ v, (wipe σ vs)[i]? = some (some v) ∧ Dv K H v d
  | [], i, d, e => h i d e
  | v :: vs, i, d, e => by
    unfold wipeG at e
    unfold wipe
    by_cases q : v = i
    · subst q
      by_cases z : v < (wipeG Γ vs).length
      · rw [List.getElem?_set_self z] at e; cases e
      · rw [List.getElem?_eq_none (by rw [List.length_set]; omega)] at e; cases e
    · rw [List.getElem?_set_ne q] at e ⊢
      exact wipe_env h vs i d e
theorem Rep.wipe {K : Frag} {σ : L2.St} {H H1 : Hp} (R : Rep K σ H H1 Γ Θ) (vs : List Nat) : Rep K (wipe σ vs) H H1 (wipeG Γ vs) Θ :=
  R.slots (by rw [wipeG_length, wipe_length]; exact R.len) (wipe_env R.env vs)
theorem wipe_set {σ : L2.St} {x : Option V} {i : Nat} : ∀ {vs : List Nat}, i ∈ vs → wipe (σ.set i x) vs = wipe σ vs
  | v :: vs, h => by
    unfold wipe
    by_cases q : i ∈ vs
    · rw [wipe_set q]
    · have e : i = v := (List.mem_cons.mp h).resolve_right q
      subst e
      have w : ∀ (ws : List Nat), i ∉ ws → wipe (σ.set i x) ws = (wipe σ ws).set i x := fun ws => by
        induction ws with
        | nil => intro _; rfl
        | cons u us ih =>
          intro hn
          have h1 : i ≠ u := fun z => hn (z ▸ List.mem_cons_self ..)
          unfold wipe
          rw [ih fun z => hn (List.mem_cons_of_mem _ z), List.set_comm _ _ h1]
      rw [w vs q, List.set_set]
theorem wipe_wipe {σ : L2.St} : ∀ {vs ws : List Nat}, (∀ i ∈ ws, i ∈ vs) → wipe (wipe σ ws) vs = wipe σ vs
  | vs, [], _ => rfl
  | vs, w :: ws, h => by
    show wipe ((wipe σ ws).set w none) vs = _
    rw [wipe_set (h w (List.mem_cons_self ..)), wipe_wipe fun i hi => h i (List.mem_cons_of_mem _ hi)]
/-- a target of names at the slots is alone: what it leaves at the slots -/
inductive TgD : Type where
  | one (i : Nat)
  | two (i j : Nat)
  | three (i j k : Nat)
def TgD.slots : TgD → List Nat
  | .one i => [i]
  | .two i j => [i, j]
  | .three i j k => [i, j, k]
/-- the target tg stores the data d at its slots, alone -/
def TgOk (S : Stat) (tg : Expr) (g : TG) (d : Da) (Γ Γ1 : Gam) (vs : List Nat) : Prop := (∀ X, Ok S X → PG X tg g) ∧ ∀ σ H H1 Θ v, Rep S.K σ H H1 Γ Θ → Dv S.K H v d → ∀ Q : L2.St → Hp → Prop, (∀ σ', wipe σ' vs = wipe σ vs → Rep S.K σ' H H1 Γ1 Θ → Q σ' H1) → g v σ H1 Q
theorem tg_name {i : Nat} {x : Str} {d : Da} {vs : List Nat} {px : Pos} (hv : i ∈ vs) (hN : S.N.Nodup) (hi : S.N[i]? = some x) (hx : Loc S.sc x) (hf : S.fn x = true ∨ S.sc.names.lookup x = some .local := by first | exact .inl rfl | exact .inr rfl) : TgOk S (.Name x px) (gName i) d Γ (Γ.set i (some d)) vs :=
  ⟨fun X o => pg_name (by rw [o.N]; exact hN) (by rw [o.N]; exact hi) (o.loc hx) (by rw [o.fn, o.sc]; exact hf), fun σ H H1 Θ v R r Q k => k _ (wipe_set hv) (R.set r)⟩
theorem tg_two {i j kk : Nat} {x y : Str} {d1 d2 : Da} {vs : List Nat} {px py : Pos} (hv : i ∈ vs) (hv2 : j ∈ vs) (hN : S.N.Nodup) (hi : S.N[i]? = some x) (hx : Loc S.sc x) (hj : S.N[j]? = some y) (hy : Loc S.sc y)
    (hf : S.fn x = true ∨ S.sc.names.lookup x = some .local := by first | exact .inl rfl | exact .inr rfl) (hf2 : S.fn y = true ∨ S.sc.names.lookup y = some .local := by first | exact .inl rfl | exact .inr rfl) :
    TgOk S (.Tuple [.Name x px, .Name y py] kk pos) (gTup S.K 2 (gCons (gName i) (gCons (gName j) gNil))) (.tup [d1, d2]) Γ ((Γ.set i (some d1)).set j (some d2)) vs :=
  ⟨fun X o => o.K ▸ pg_tup o.calm (pgs_cons (pg_name (by rw [o.N]; exact hN) (by rw [o.N]; exact hi) (o.loc hx) (by rw [o.fn, o.sc]; exact hf)) (pgs_cons (pg_name (by rw [o.N]; exact hN) (by rw [o.N]; exact hj) (o.loc hy) (by rw [o.fn, o.sc]; exact hf2)) pgs_nil)), fun σ H H1 Θ v R r Q k => by
    cases r with
    | tup s q =>
      cases q with
      | cons r1 q =>
        cases q with
        | cons r2 q =>
          cases q
          refine ⟨_, _, rfl, .inl (.inl (R.ex _ _ s)), rfl, _, _, rfl, _, _, rfl, rfl, k _ ?_ ((R.set r1).set r2)⟩
          rw [wipe_set hv2, wipe_set hv]⟩
/-- the tests behind an if of a comprehension -/
def ets (S : Stat) (ifs : List Expr) (Γ : Gam) (Θ : Sto) (PB : Bool → Sto → Prop) : Prop := match ifs with
  | [] => PB true Θ
  | [c] => et S c Γ Θ PB
  | _ => False
def wTs (S : Stat) (ifs : List Expr) : TT := match ifs with
  | [] => tYes
  | [c] => wT S c
  | _ => fun _ _ _ => False
theorem w_ts {X : Cx} (o : Ok S X) (ifs : List Expr) (h : ifs.length ≤ 1) : PTs X ifs (wTs S ifs) := match ifs, h with
  | [], _ => pts_nil
  | [c], _ => pts_one (w_t o c)
theorem ets_run {σ : L2.St} {H H1 : Hp} {Q : Bool → Hp → Prop} (h : ets S ifs Γ Θ PB) (R : Rep S.K σ H H1 Γ Θ) (k : ∀ b H' H2 Θ', PB b Θ' → Fr Θ H H1 Θ' H' H2 → Rep S.K σ H' H2 Γ Θ' → Q b H2) : wTs S ifs σ H1 Q := by
  match ifs, h with
  | [], h => exact k _ _ _ _ h Fr.refl R
  | [c], h => exact h σ H H1 R Q k
theorem et_imp {PB' : Bool → Sto → Prop} (h : et S c Γ Θ PB) (q : ∀ b Θ', PB b Θ' → PB' b Θ') : et S c Γ Θ PB' := fun σ H H1 R Q k => h σ H H1 R Q fun b H' H2 Θ' p => k b H' H2 Θ' (q b Θ' p)
theorem ets_imp {PB' : Bool → Sto → Prop} (h : ets S ifs Γ Θ PB) (q : ∀ b Θ', PB b Θ' → PB' b Θ') : ets S ifs Γ Θ PB' := by
  match ifs, h with
  | [], h => exact q _ _ h
  | [c], h => exact et_imp h q
theorem Rep.learn {K : Frag} {σ : L2.St} {H H1 : Hp} (R : Rep K σ H H1 Γ Θ) {p : Addr} {o : HO} (h0 : H p = none) (h1 : Θ p = none) (h2 : H1 p = some o) : Rep K σ (upd H p o) H1 Γ Θ := by
  have s1 : Same H (upd H p o) := same_upd h0
  refine ⟨fun b u e => ?_, R.len, fun i d e => ?_, fun q u e => ?_⟩
  · by_cases z : b = p
    · subst z; rw [upd_same] at e; cases e; exact h2
    · rw [upd_ne z] at e; exact R.ex b u e
  · obtain ⟨v, hv, r⟩ := R.env i d e
    exact ⟨v, hv, r.mono s1⟩
  · have z : q ≠ p := fun z => by rw [z, h1] at e; cases e
    obtain ⟨n, ok⟩ := R.sto q u e
    exact ⟨by rw [upd_ne z]; exact n, ok.mono s1 fun _ y => y⟩
/-- what a comprehension asks -/
def CompD (S : Stat) (tg it elt : Expr) (ifs : List Expr) (scope : Scope) (g : TG) (vs : List Nat) (Γ : Gam) (Θ : Sto) (I : List Da → Nat → List Da → Sto → Prop) (Post : PoE) : Prop :=
  ei S tg it Γ Θ fun ds Θ1 => ds.length < sizeLine ∧ I ds 0 [] Θ1 ∧ (∀ i x acc Θ2, ds[i]? = some x → acc.length ≤ i → I ds i acc Θ2 → ∃ Γ1, TgOk (S.blk scope) tg g x (wipeG Γ vs) Γ1 vs ∧
      ets (S.blk scope) ifs Γ1 Θ2 fun k Θ3 => if k = true then ev (S.blk scope) elt Γ1 Θ3 fun y Θ4 => I ds (i + 1) (acc ++ [y]) Θ4 else I ds (i + 1) acc Θ3) ∧ ∀ acc Θ2, I ds ds.length acc Θ2 → acc.length ≤ ds.length → Post (.lst acc) Θ2
/-- what the iterable gives, and what is due of it -/
abbrev CompI (S : Stat) (tg elt : Expr) (ifs : List Expr) (scope : Scope) (g : TG) (vs : List Nat) (Γ : Gam) (I : List Da → Nat → List Da → Sto → Prop) (Post : PoE) : List Da → Sto → Prop := fun ds Θ1 => ds.length < sizeLine ∧ I ds 0 [] Θ1 ∧ (∀ i x acc Θ2, ds[i]? = some x → acc.length ≤ i → I ds i acc Θ2 → ∃ Γ1, TgOk (S.blk scope) tg g x (wipeG Γ vs) Γ1 vs ∧
      ets (S.blk scope) ifs Γ1 Θ2 fun k Θ3 => if k = true then ev (S.blk scope) elt Γ1 Θ3 fun y Θ4 => I ds (i + 1) (acc ++ [y]) Θ4 else I ds (i + 1) acc Θ3) ∧ ∀ acc Θ2, I ds ds.length acc Θ2 → acc.length ≤ ds.length → Post (.lst acc) Θ2
/-- the reading of a comprehension -/
theorem lc_runG {tg : Expr} {ti : TI} {scope : Scope} {g : TG} {vs : List Nat} {σ : L2.St} {H H1 : Hp} (R : Rep S.K σ H H1 Γ Θ) (I : List Da → Nat → List Da → Sto → Prop) (Q : VK)
    (h : ∀ Rr : It → Hp → Prop, (∀ J ds H' H2 Θ', CompI S tg elt ifs scope g vs Γ I Post ds Θ' → Fr Θ H H1 Θ' H' H2 → Rep S.K σ H' H2 Γ Θ' → Yields S.K J ds Θ' H' H2 → Rr J H2) → ti σ H1 Rr)
    (k : ∀ v d H' H2 Θ', Post d Θ' → Fr Θ H H1 Θ' H' H2 → Rep S.K σ H' H2 Γ Θ' → Dv S.K H' v d → Q v H2) : tLc ti g (wTs (S.blk scope) ifs) (wE (S.blk scope) elt) vs σ H1 Q := by
  refine h _ fun J ds H' H2 Θ1 ⟨hz, i0, step, done⟩ f0 R0 Y => ?_
  intro D hD
  obtain ⟨nD1, nD2⟩ := R0.no hD
  refine ⟨fun i m H3 => m = ds.length - i ∧ i ≤ ds.length ∧ ∃ acc av Θ2 H4, I ds i acc Θ2 ∧ acc.length ≤ i ∧ Fr Θ1 H' H2 Θ2 H4 H3 ∧ Rep S.K (wipe σ vs) H4 H3 (wipeG Γ vs) Θ2 ∧ H4 D = none ∧ Θ2 D = none ∧ H3 D = some (.lst av) ∧ DvAll S.K H4 av acc,
    ⟨_, rfl, Nat.zero_le _, [], [], Θ1, H', i0, Nat.le_refl _, ⟨Same.refl _, fun x o _ q => by rw [upd_ne (ne_of_none q hD)]; exact q, fun x o q => ⟨o, by rw [upd_ne (ne_of_none q hD)]; exact q⟩, fun x q => by
      rcases q with q | q
      · exact .inl q
      · exact .inr (.inl q)⟩, ?_, nD1, nD2, upd_same, .nil⟩, ?_⟩
  · refine ⟨same_updB R0.ex nD1, (R0.wipe vs).len, (R0.wipe vs).env, fun q u e => ?_⟩
    obtain ⟨n, ok⟩ := R0.sto q u e
    exact ⟨n, ok.mono (Same.refl _) fun w y => by rw [upd_ne (ne_of_none y hD)]; exact y⟩
  rintro i m H3 ⟨rfl, hi, acc, av, Θ2, H4, hI, hacc, f1, R1, n4, nT, hD3, rD⟩
  obtain ⟨stop, go⟩ := Y Θ2 H4 H3 f1 R1.ex
  by_cases hlt : i < ds.length
  · have hx : ds[i]? = some ds[i] := List.getElem?_eq_getElem hlt
    obtain ⟨g1, yl⟩ := go i _ hx
    refine .inr ⟨g1, fun H5 => ∃ acc av Θ3 H6, I ds (i + 1) acc Θ3 ∧ acc.length ≤ i + 1 ∧ Fr Θ1 H' H2 Θ3 H6 H5 ∧ Rep S.K (wipe σ vs) H6 H5 (wipeG Γ vs) Θ3 ∧ H6 D = none ∧ Θ3 D = none ∧ H5 D = some (.lst av) ∧ DvAll S.K H6 av acc,
      fun H5 q => ⟨ds.length - (i + 1), by omega, rfl, hlt, q⟩, fun v H5 y => ?_⟩
    obtain ⟨H6, s1, s2, s3, nw, rv⟩ := yl v H5 y
    obtain ⟨R2, f2⟩ := R1.ext s1 s2 s3 nw
    have f12 := f1.trans R1 f2
    have n6 : H6 D = none := by
      cases z : H6 D with
      | none => rfl
      | some u =>
        rcases nw D (by rw [z]; simp) with q | q
        · exact absurd n4 q
        · rw [hD3] at q; cases q
    have hD5 : H5 D = some (.lst av) := s3 D _ hD3
    obtain ⟨Γ1, tgok, tst⟩ := step i _ acc Θ2 hx hacc hI
    refine tgok.2 (wipe σ vs) H6 H5 Θ2 v R2 rv _ fun σ' hw R3 => ⟨?_, ?_⟩
    · rw [hw, wipe_wipe fun _ h => h]
    -- what the tests and the element leave at D
    have back : ∀ {Θ3 : Sto} {H7 H8 : Hp}, Fr Θ2 H6 H5 Θ3 H7 H8 → H7 D = none ∧ Θ3 D = none ∧ H8 D = some (.lst av) := fun {Θ3 H7 H8} f => by
      have e8 := f.fr D _ nT hD5
      refine ⟨?_, ?_, e8⟩
      · cases z : H7 D with
        | none => rfl
        | some u =>
          rcases f.nw D (.inl (by rw [z]; simp)) with q | q | q
          · exact absurd n6 q
          · exact absurd nT q
          · rw [hD5] at q; cases q
      · cases z : Θ3 D with
        | none => rfl
        | some u =>
          rcases f.nw D (.inr (by rw [z]; simp)) with q | q | q
          · exact absurd n6 q
          · exact absurd nT q
          · rw [hD5] at q; cases q
    refine ets_run tst R3 fun kk H7 H8 Θ3 p f3 R4 => ?_
    have re : ∀ {Θ3 : Sto} {H7 H8 : Hp}, Rep S.K σ' H7 H8 Γ1 Θ3 → Fr Θ2 H6 H5 Θ3 H7 H8 → Rep S.K (wipe σ vs) H7 H8 (wipeG Γ vs) Θ3 := fun {Θ3 H7 H8} R f => ⟨R.ex, (R0.wipe vs).len, fun j d e => by
      obtain ⟨u, hu, r⟩ := (R2.env j d e)
      exact ⟨u, hu, r.mono f.ke⟩, R.sto⟩
    cases kk with
    | false =>
      rw [if_neg Bool.false_ne_true] at p ⊢
      obtain ⟨b1, b2, b3⟩ := back f3
      exact ⟨acc, av, Θ3, H7, p, by omega, f12.trans R2 f3, re R4 f3, b1, b2, b3, (rD.mono s1).mono f3.ke⟩
    | true =>
      rw [if_pos rfl] at p ⊢
      refine p σ' H7 H8 R4 _ fun u d H9 H10 Θ4 q f4 R5 ru => ?_
      have f34 := f3.trans R4 f4
      obtain ⟨b1, b2, b3⟩ := back f34
      have rA : DvAll S.K H9 av acc := ((rD.mono s1).mono f3.ke).mono f4.ke
      refine ⟨av, b3, by rw [rA.length]; omega, acc ++ [d], av ++ [u], Θ4, H9, q, by rw [List.length_append, List.length_singleton]; omega, ?_, ?_, b1, b2, upd_same, rA.append (.one ru)⟩
      · have ff := f12.trans R2 f34
        refine ⟨ff.ke, fun x o n e => ?_, fun x o e => ?_, ff.nw⟩
        · have z : x ≠ D := ne_of_none e hD
          rw [upd_ne z]; exact ff.fr x o n e
        · have z : x ≠ D := ne_of_none e hD
          obtain ⟨o', e'⟩ := ff.th x o e
          exact ⟨o', by rw [upd_ne z]; exact e'⟩
      · have R6 := re R5 f34
        refine ⟨same_updB R6.ex b1, R6.len, R6.env, fun x w e => ?_⟩
        have z : x ≠ D := fun z => by rw [z, b2] at e; cases e
        obtain ⟨n, ok⟩ := R6.sto x w e
        exact ⟨n, ok.mono (Same.refl _) fun w y => by rw [upd_ne z]; exact y⟩
  · have e : i = ds.length := by omega
    subst e
    refine .inl ⟨stop, ?_⟩
    have fin := done acc Θ2 hI hacc
    have R7 : Rep S.K σ H4 H3 Γ Θ2 := ⟨R1.ex, R.len, fun j d e => by
      obtain ⟨u, hu, r⟩ := R0.env j d e
      exact ⟨u, hu, r.mono f1.ke⟩, R1.sto⟩
    have R8 := R7.learn n4 nT hD3
    refine k _ _ _ _ _ fin ?_ R8 (.lst upd_same (rD.mono (same_upd n4)))
    have ff := f0.trans R0 f1
    refine ⟨ff.ke.trans (same_upd n4), ff.fr, ff.th, fun x q => ?_⟩
    by_cases z : x = D
    · subst z
      refine .inr (.inr ?_)
      cases w : H1 x with
      | none => rfl
      | some o =>
        obtain ⟨o', e'⟩ := f0.th x o w
        rw [hD] at e'; cases e'
    · rw [upd_ne z] at q
      exact ff.nw x q
theorem lc_run {tg it : Expr} {scope : Scope} {g : TG} {vs : List Nat} {σ : L2.St} {H H1 : Hp} (R : Rep S.K σ H H1 Γ Θ) (I : List Da → Nat → List Da → Sto → Prop) (Q : VK)
    (h : CompD S tg it elt ifs scope g vs Γ Θ I Post)
    (k : ∀ v d H' H2 Θ', Post d Θ' → Fr Θ H H1 Θ' H' H2 → Rep S.K σ H' H2 Γ Θ' → Dv S.K H' v d → Q v H2) : tLc (wI S tg it) g (wTs (S.blk scope) ifs) (wE (S.blk scope) elt) vs σ H1 Q :=
  lc_runG R I Q (fun Rr q => h σ H H1 R Rr q) k
/-- .. the list to be changed -/
def CompM (S : Stat) (tg it elt : Expr) (ifs : List Expr) (scope : Scope) (g : TG) (vs : List Nat) (Γ : Gam) (Θ : Sto) (I : List Da → Nat → List Da → Sto → Prop) (Post : PoE) : Prop :=
  ei S tg it Γ Θ fun ds Θ1 => ds.length < sizeLine ∧ I ds 0 [] Θ1 ∧ (∀ i x acc Θ2, ds[i]? = some x → acc.length ≤ i → I ds i acc Θ2 → ∃ Γ1, TgOk (S.blk scope) tg g x (wipeG Γ vs) Γ1 vs ∧
      ets (S.blk scope) ifs Γ1 Θ2 fun k Θ3 => if k = true then ev (S.blk scope) elt Γ1 Θ3 fun y Θ4 => I ds (i + 1) (acc ++ [y]) Θ4 else I ds (i + 1) acc Θ3) ∧ ∀ acc Θ2, I ds ds.length acc Θ2 → acc.length ≤ ds.length → ∀ D, Θ2 D = none → Post (.obj D) (updS Θ2 D (.lst acc))
/-- .. the list to be changed -/
theorem lc_runM {tg it : Expr} {scope : Scope} {g : TG} {vs : List Nat} {σ : L2.St} {H H1 : Hp} (R : Rep S.K σ H H1 Γ Θ) (I : List Da → Nat → List Da → Sto → Prop) (Q : VK)
    (h : CompM S tg it elt ifs scope g vs Γ Θ I Post)
    (k : ∀ v d H' H2 Θ', Post d Θ' → Fr Θ H H1 Θ' H' H2 → Rep S.K σ H' H2 Γ Θ' → Dv S.K H' v d → Q v H2) : tLc (wI S tg it) g (wTs (S.blk scope) ifs) (wE (S.blk scope) elt) vs σ H1 Q := by
  refine h σ H H1 R _ fun J ds H' H2 Θ1 ⟨hz, i0, step, done⟩ f0 R0 Y => ?_
  intro D hD
  obtain ⟨nD1, nD2⟩ := R0.no hD
  refine ⟨fun i m H3 => m = ds.length - i ∧ i ≤ ds.length ∧ ∃ acc av Θ2 H4, I ds i acc Θ2 ∧ acc.length ≤ i ∧ Fr Θ1 H' H2 Θ2 H4 H3 ∧ Rep S.K (wipe σ vs) H4 H3 (wipeG Γ vs) Θ2 ∧ H4 D = none ∧ Θ2 D = none ∧ H3 D = some (.lst av) ∧ DvAll S.K H4 av acc,
    ⟨_, rfl, Nat.zero_le _, [], [], Θ1, H', i0, Nat.le_refl _, ⟨Same.refl _, fun x o _ q => by rw [upd_ne (ne_of_none q hD)]; exact q, fun x o q => ⟨o, by rw [upd_ne (ne_of_none q hD)]; exact q⟩, fun x q => by
      rcases q with q | q
      · exact .inl q
      · exact .inr (.inl q)⟩, ?_, nD1, nD2, upd_same, .nil⟩, ?_⟩
  · refine ⟨same_updB R0.ex nD1, (R0.wipe vs).len, (R0.wipe vs).env, fun q u e => ?_⟩
    obtain ⟨n, ok⟩ := R0.sto q u e
    exact ⟨n, ok.mono (Same.refl _) fun w y => by rw [upd_ne (ne_of_none y hD)]; exact y⟩
  rintro i m H3 ⟨rfl, hi, acc, av, Θ2, H4, hI, hacc, f1, R1, n4, nT, hD3, rD⟩
  obtain ⟨stop, go⟩ := Y Θ2 H4 H3 f1 R1.ex
  by_cases hlt : i < ds.length
  · have hx : ds[i]? = some ds[i] := List.getElem?_eq_getElem hlt
    obtain ⟨g1, yl⟩ := go i _ hx
    refine .inr ⟨g1, fun H5 => ∃ acc av Θ3 H6, I ds (i + 1) acc Θ3 ∧ acc.length ≤ i + 1 ∧ Fr Θ1 H' H2 Θ3 H6 H5 ∧ Rep S.K (wipe σ vs) H6 H5 (wipeG Γ vs) Θ3 ∧ H6 D = none ∧ Θ3 D = none ∧ H5 D = some (.lst av) ∧ DvAll S.K H6 av acc,
      fun H5 q => ⟨ds.length - (i + 1), by omega, rfl, hlt, q⟩, fun v H5 y => ?_⟩
    obtain ⟨H6, s1, s2, s3, nw, rv⟩ := yl v H5 y
    obtain ⟨R2, f2⟩ := R1.ext s1 s2 s3 nw
    have f12 := f1.trans R1 f2
    have n6 : H6 D = none := by
      cases z : H6 D with
      | none => rfl
      | some u =>
        rcases nw D (by rw [z]; simp) with q | q
        · exact absurd n4 q
        · rw [hD3] at q; cases q
    have hD5 : H5 D = some (.lst av) := s3 D _ hD3
    obtain ⟨Γ1, tgok, tst⟩ := step i _ acc Θ2 hx hacc hI
    refine tgok.2 (wipe σ vs) H6 H5 Θ2 v R2 rv _ fun σ' hw R3 => ⟨?_, ?_⟩
    · rw [hw, wipe_wipe fun _ h => h]
    -- what the tests and the element leave at D
    have back : ∀ {Θ3 : Sto} {H7 H8 : Hp}, Fr Θ2 H6 H5 Θ3 H7 H8 → H7 D = none ∧ Θ3 D = none ∧ H8 D = some (.lst av) := fun {Θ3 H7 H8} f => by
      have e8 := f.fr D _ nT hD5
      refine ⟨?_, ?_, e8⟩
      · cases z : H7 D with
        | none => rfl
        | some u =>
          rcases f.nw D (.inl (by rw [z]; simp)) with q | q | q
          · exact absurd n6 q
          · exact absurd nT q
          · rw [hD5] at q; cases q
      · cases z : Θ3 D with
        | none => rfl
        | some u =>
          rcases f.nw D (.inr (by rw [z]; simp)) with q | q | q
          · exact absurd n6 q
          · exact absurd nT q
          · rw [hD5] at q; cases q
    refine ets_run tst R3 fun kk H7 H8 Θ3 p f3 R4 => ?_
    have re : ∀ {Θ3 : Sto} {H7 H8 : Hp}, Rep S.K σ' H7 H8 Γ1 Θ3 → Fr Θ2 H6 H5 Θ3 H7 H8 → Rep S.K (wipe σ vs) H7 H8 (wipeG Γ vs) Θ3 := fun {Θ3 H7 H8} R f => ⟨R.ex, (R0.wipe vs).len, fun j d e => by
      obtain ⟨u, hu, r⟩ := (R2.env j d e)
      exact ⟨u, hu, r.mono f.ke⟩, R.sto⟩
    cases kk with
    | false =>
      rw [if_neg Bool.false_ne_true] at p ⊢
      obtain ⟨b1, b2, b3⟩ := back f3
      exact ⟨acc, av, Θ3, H7, p, by omega, f12.trans R2 f3, re R4 f3, b1, b2, b3, (rD.mono s1).mono f3.ke⟩
    | true =>
      rw [if_pos rfl] at p ⊢
      refine p σ' H7 H8 R4 _ fun u d H9 H10 Θ4 q f4 R5 ru => ?_
      have f34 := f3.trans R4 f4
      obtain ⟨b1, b2, b3⟩ := back f34
      have rA : DvAll S.K H9 av acc := ((rD.mono s1).mono f3.ke).mono f4.ke
      refine ⟨av, b3, by rw [rA.length]; omega, acc ++ [d], av ++ [u], Θ4, H9, q, by rw [List.length_append, List.length_singleton]; omega, ?_, ?_, b1, b2, upd_same, rA.append (.one ru)⟩
      · have ff := f12.trans R2 f34
        refine ⟨ff.ke, fun x o n e => ?_, fun x o e => ?_, ff.nw⟩
        · have z : x ≠ D := ne_of_none e hD
          rw [upd_ne z]; exact ff.fr x o n e
        · have z : x ≠ D := ne_of_none e hD
          obtain ⟨o', e'⟩ := ff.th x o e
          exact ⟨o', by rw [upd_ne z]; exact e'⟩
      · have R6 := re R5 f34
        refine ⟨same_updB R6.ex b1, R6.len, R6.env, fun x w e => ?_⟩
        have z : x ≠ D := fun z => by rw [z, b2] at e; cases e
        obtain ⟨n, ok⟩ := R6.sto x w e
        exact ⟨n, ok.mono (Same.refl _) fun w y => by rw [upd_ne z]; exact y⟩
  · have e : i = ds.length := by omega
    subst e
    refine .inl ⟨stop, ?_⟩
    have fin := done acc Θ2 hI hacc D nT
    have R7 : Rep S.K σ H4 H3 Γ Θ2 := ⟨R1.ex, R.len, fun j d e => by
      obtain ⟨u, hu, r⟩ := R0.env j d e
      exact ⟨u, hu, r.mono f1.ke⟩, R1.sto⟩
    have R8 : Rep S.K σ H4 H3 Γ (updS Θ2 D (.lst acc)) := ⟨R7.ex, R7.len, R7.env, fun x o e => by
      by_cases z : x = D
      · subst z; rw [updS_same] at e; cases e; exact ⟨n4, _, hD3, rD⟩
      · rw [updS_ne z] at e; exact R7.sto x o e⟩
    refine k _ _ _ _ _ fin ?_ R8 (.obj D)
    have ff := f0.trans R0 f1
    refine ⟨ff.ke, ff.fr, ff.th, fun x q => ?_⟩
    by_cases z : x = D
    · subst z
      refine .inr (.inr ?_)
      cases w : H1 x with
      | none => rfl
      | some o =>
        obtain ⟨o', e'⟩ := f0.th x o w
        rw [hD] at e'; cases e'
    · rw [updS_ne z] at q
      exact ff.nw x q
theorem blk_of {X : Cx} {scope : Scope} {own : List (Str × Nat)} (o : Ok S X) (ok : blkC S.N S.sc scope own = true) : BlkOk X.N X.env.scope scope own := by rw [o.N, o.sc]; exact blkOk_by ok
theorem ev_lc {tg it : Expr} {scope : Scope} {g : TG} (own : List (Str × Nat)) (I : List Da → Nat → List Da → Sto → Prop) (hN : S.N.Nodup) (ok : blkC S.N S.sc scope own = true) (hi : ifs.length ≤ 1) (hg : ∀ X, Ok (S.blk scope) X → PG X tg g)
    (h : CompD S tg it elt ifs scope g (own.map (·.2)) Γ Θ I Post) (hs : ∀ (env : Env) (x : Value), foldedSetIterable it env x = pure x := by intro _ _; rfl) : ev S (.ListComp elt [⟨tg, it, ifs, 0⟩] scope pos) Γ Θ Post :=
  ev_mk (t := tLc (wI S tg it) g (wTs (S.blk scope) ifs) (wE (S.blk scope) elt) (own.map (·.2))) (fun X o => pe_lc o.calm (by rw [o.N]; exact hN) (w_i o tg it) (blk_of o ok) (fun s H C cl fp => hg _ (o.blk s H C cl fp)) (fun s H C cl fp => w_ts (o.blk s H C cl fp) ifs hi) (fun s H C cl fp => w_e (o.blk s H C cl fp) elt) (hs _))
    fun σ H H1 R Q k => lc_run R I Q h k
theorem ev_lcM {tg it : Expr} {scope : Scope} {g : TG} (own : List (Str × Nat)) (I : List Da → Nat → List Da → Sto → Prop) (hN : S.N.Nodup) (ok : blkC S.N S.sc scope own = true) (hi : ifs.length ≤ 1) (hg : ∀ X, Ok (S.blk scope) X → PG X tg g)
    (h : CompM S tg it elt ifs scope g (own.map (·.2)) Γ Θ I Post) (hs : ∀ (env : Env) (x : Value), foldedSetIterable it env x = pure x := by intro _ _; rfl) : ev S (.ListComp elt [⟨tg, it, ifs, 0⟩] scope pos) Γ Θ Post :=
  ev_mk (t := tLc (wI S tg it) g (wTs (S.blk scope) ifs) (wE (S.blk scope) elt) (own.map (·.2))) (fun X o => pe_lc o.calm (by rw [o.N]; exact hN) (w_i o tg it) (blk_of o ok) (fun s H C cl fp => hg _ (o.blk s H C cl fp)) (fun s H C cl fp => w_ts (o.blk s H C cl fp) ifs hi) (fun s H C cl fp => w_e (o.blk s H C cl fp) elt) (hs _))
    fun σ H H1 R Q k => lc_runM R I Q h k
/-- y = [..], on one line -/
theorem ex1_setLc {tg it : Expr} {scope : Scope} {g : TG} {i : Nat} {y : Str} {py spos : Pos} {D : DE} (own : List (Str × Nat)) (I : List Da → Nat → List Da → Sto → Prop) (hN : S.N.Nodup) (hy : S.N[i]? = some y) (hyl : S.sc.names.lookup y = some .local)
    (hsw : ∀ env : Env, env.scope = S.sc → swapsWith (.ListComp elt [⟨tg, it, ifs, 0⟩] scope pos) (some (.Name y py)) spos.line env = pure true) (ok : blkC S.N S.sc scope own = true) (hi : ifs.length ≤ 1) (hg : ∀ X, Ok (S.blk scope) X → PG X tg g)
    (h : CompD S tg it elt ifs scope g (own.map (·.2)) Γ Θ I fun d Θ1 => D.nx (Γ.set i (some d)) Θ1) (hs : ∀ (env : Env) (x : Value), foldedSetIterable it env x = pure x := by intro _ _; rfl) : ex1 S (.Assign [.Name y py] (.ListComp elt [⟨tg, it, ifs, 0⟩] scope pos) spos) Γ Θ D :=
  ex1_mk (t := tAsg (tLc (wI S tg it) g (wTs (S.blk scope) ifs) (wE (S.blk scope) elt) (own.map (·.2))) (gName i)) (fun X o => ps_setLc o.calm (by rw [o.N]; exact hN) (by rw [o.N]; exact hy) (by rw [o.sc]; exact hyl) (hsw _ o.sc) (w_i o tg it) (blk_of o ok) (fun s H C cl fp => hg _ (o.blk s H C cl fp)) (fun s H C cl fp => w_ts (o.blk s H C cl fp) ifs hi) (fun s H C cl fp => w_e (o.blk s H C cl fp) elt) (hs _))
    fun σ H H1 R E k => lc_run R I _ h fun v d H' H2 Θ' p f R' r => k.nx _ _ _ _ _ p f (R'.set r)
/-- .. the list to be changed -/
theorem ex1_setLcM {tg it : Expr} {scope : Scope} {g : TG} {i : Nat} {y : Str} {py spos : Pos} {D : DE} (own : List (Str × Nat)) (I : List Da → Nat → List Da → Sto → Prop) (hN : S.N.Nodup) (hy : S.N[i]? = some y) (hyl : S.sc.names.lookup y = some .local)
    (hsw : ∀ env : Env, env.scope = S.sc → swapsWith (.ListComp elt [⟨tg, it, ifs, 0⟩] scope pos) (some (.Name y py)) spos.line env = pure true) (ok : blkC S.N S.sc scope own = true) (hi : ifs.length ≤ 1) (hg : ∀ X, Ok (S.blk scope) X → PG X tg g)
    (h : CompM S tg it elt ifs scope g (own.map (·.2)) Γ Θ I fun d Θ1 => D.nx (Γ.set i (some d)) Θ1) (hs : ∀ (env : Env) (x : Value), foldedSetIterable it env x = pure x := by intro _ _; rfl) : ex1 S (.Assign [.Name y py] (.ListComp elt [⟨tg, it, ifs, 0⟩] scope pos) spos) Γ Θ D :=
  ex1_mk (t := tAsg (tLc (wI S tg it) g (wTs (S.blk scope) ifs) (wE (S.blk scope) elt) (own.map (·.2))) (gName i)) (fun X o => ps_setLc o.calm (by rw [o.N]; exact hN) (by rw [o.N]; exact hy) (by rw [o.sc]; exact hyl) (hsw _ o.sc) (w_i o tg it) (blk_of o ok) (fun s H C cl fp => hg _ (o.blk s H C cl fp)) (fun s H C cl fp => w_ts (o.blk s H C cl fp) ifs hi) (fun s H C cl fp => w_e (o.blk s H C cl fp) elt) (hs _))
    fun σ H H1 R E k => lc_runM R I _ h fun v d H' H2 Θ' p f R' r => k.nx _ _ _ _ _ p f (R'.set r)
/-! ### enumerate, zip -/
theorem yields_enum {K : Frag} {H H00 : Hp} {p : Addr} {xs : List V} {ds : List Da} (s : SqL K H p xs) (r : DvAll K H xs ds) : Yields K (Ite K p) (ds.mapIdx fun i d => .tup [.int (i : Nat), d]) Θ H H00 := fun Θ1 H' H1 f b => by
  have a := f.ke
  exact
  ⟨⟨xs, b.seq (a.seq s), by rw [List.length_mapIdx, r.length]; exact Nat.le_refl _⟩, fun i x hx => by
    rw [List.getElem?_mapIdx] at hx
    cases q : ds[i]? with
    | none => rw [q] at hx; cases hx
    | some d =>
      rw [q] at hx
      cases hx
      obtain ⟨v, hv, rv⟩ := r.getd q
      refine ⟨⟨xs, v, b.seq (a.seq s), hv⟩, fun u H2 y => ?_⟩
      obtain ⟨T, x, rfl, nT, rfl, y⟩ := y
      have e := y xs (b.seq (a.seq s))
      rw [hv] at e
      cases e
      have n' : H' T = none := b.free nT
      refine ⟨upd H' T (.tup [.int (i : Nat), v]), same_upd n', fun z o e => ?_, same_upd nT, fun z h => ?_, .tup upd_same (.cons (.int _) (.one ((rv.mono a).mono (same_upd n'))))⟩
      · by_cases w : z = T
        · subst w; rw [upd_same] at e ⊢; exact e
        · rw [upd_ne w] at e ⊢; exact b z o e
      · by_cases w : z = T
        · subst w; exact .inr nT
        · rw [upd_ne w] at h; exact .inl h⟩
theorem ei_enum {elts : List Expr} {kk : Nat} {p tpos : Pos} {P : List Da → Sto → Prop} (hx : Bs S "enumerate" (.type "enumerate")) (h : ev S e Γ Θ fun d Θ' => ∃ ds, d = .lst ds ∧ P (ds.mapIdx fun i d => .tup [.int (i : Nat), d]) Θ') (hs : NoStar e := by intro _ _; rfl) : ei S (.Tuple elts kk tpos) (.Call (.Name "enumerate" p) [e] [] pos) Γ Θ P :=
  ei_mk (t := iEnum S.K (wA S [e])) (fun X o => o.K ▸ pi_enum (o.gl hx.1) (by rw [o.mg]; exact hx.2.1) (w_a o _) (hs _ _)) fun σ H H1 R Q k => ea1 h hs σ H H1 R _ fun vs ds H' H2 Θ' ⟨d, ed, xs, e2, po⟩ f R' r => by
    subst e2 ed
    cases r with
    | cons r1 r2 =>
      cases r2
      cases r1 with
      | lst s q => exact ⟨_, _, rfl, .inl (.inl (R'.ex _ _ s)), k _ _ _ _ _ po f R' (yields_enum (.inl (.inl s)) q)⟩
def zipD (xs ys : List Da) : List Da := (xs.zip ys).map fun p => .tup [p.1, p.2]
theorem zipD_get {xs ys : List Da} {i : Nat} {z : Da} (h : (zipD xs ys)[i]? = some z) : ∃ x y, xs[i]? = some x ∧ ys[i]? = some y ∧ z = .tup [x, y] := by
  unfold zipD at h
  rw [List.getElem?_map] at h
  cases q : (xs.zip ys)[i]? with
  | none => rw [q] at h; cases h
  | some p =>
    rw [q] at h
    cases h
    rw [List.getElem?_zip_eq_some] at q
    exact ⟨p.1, p.2, q.1, q.2, rfl⟩
theorem zipD_len {xs ys : List Da} : (zipD xs ys).length = min xs.length ys.length := by unfold zipD; rw [List.length_map, List.length_zip]
theorem yields_zip {K : Frag} {H H00 : Hp} {p q : Addr} {xs ys : List V} {ds es : List Da} (s : SqL K H p xs) (r : DvAll K H xs ds) (s2 : SqL K H q ys) (r2 : DvAll K H ys es) : Yields K (Itz K p q) (zipD ds es) Θ H H00 := fun Θ1 H' H1 f b => by
  have a := f.ke
  exact
  ⟨⟨xs, ys, b.seq (a.seq s), b.seq (a.seq s2), by rw [zipD_len, r.length, r2.length]; omega⟩, fun i z hz => by
    obtain ⟨d, e, hd, he, rfl⟩ := zipD_get hz
    obtain ⟨v, hv, rv⟩ := r.getd hd
    obtain ⟨w, hw, rw_⟩ := r2.getd he
    refine ⟨⟨xs, ys, v, w, b.seq (a.seq s), b.seq (a.seq s2), hv, hw⟩, fun u H2 y => ?_⟩
    obtain ⟨T, x, y', rfl, nT, rfl, y1, y2⟩ := y
    have e1 := y1 xs (b.seq (a.seq s))
    have e2 := y2 ys (b.seq (a.seq s2))
    rw [hv] at e1
    rw [hw] at e2
    cases e1
    cases e2
    have n' : H' T = none := b.free nT
    refine ⟨upd H' T (.tup [v, w]), same_upd n', fun z o e => ?_, same_upd nT, fun z h => ?_, .tup upd_same (.cons ((rv.mono a).mono (same_upd n')) (.one ((rw_.mono a).mono (same_upd n'))))⟩
    · by_cases w : z = T
      · subst w; rw [upd_same] at e ⊢; exact e
      · rw [upd_ne w] at e ⊢; exact b z o e
    · by_cases w : z = T
      · subst w; exact .inr nT
      · rw [upd_ne w] at h; exact .inl h⟩
theorem ei_zip {elts : List Expr} {kk : Nat} {p tpos : Pos} {P : List Da → Sto → Prop} (hx : Bs S "zip" (.type "zip")) (h : ev S a Γ Θ fun d Θ1 => ev S b Γ Θ1 fun d2 Θ2 => ∃ xs ys, d = .lst xs ∧ d2 = .lst ys ∧ P (zipD xs ys) Θ2) (hs : NoStar a := by intro _ _; rfl) (hs2 : NoStar b := by intro _ _; rfl) (hpl : NoStars [b] := by intro _ _; rfl) :
    ei S (.Tuple elts kk tpos) (.Call (.Name "zip" p) [a, b] [] pos) Γ Θ P :=
  ei_mk (t := iZip S.K (wA S [a, b])) (fun X o => o.K ▸ pi_zip (o.gl hx.1) (by rw [o.mg]; exact hx.2.1) (w_a o _) (hs _ _) (hpl _ _)) fun σ H H1 R Q k => ea2 h hs hs2 σ H H1 R _ fun vs ds H' H2 Θ' ⟨d, d2, ed, xs, ys, e1, e2, po⟩ f R' r => by
    subst e1 e2 ed
    cases r with
    | cons r1 r2 =>
      cases r2 with
      | cons r2 r3 =>
        cases r3
        cases r1 with
        | lst s q =>
          cases r2 with
          | lst s2 q2 => exact ⟨_, _, _, _, rfl, .inl (.inl (R'.ex _ _ s)), .inl (.inl (R'.ex _ _ s2)), k _ _ _ _ _ po f R' (yields_zip (.inl (.inl s)) q (.inl (.inl s2)) q2)⟩
end
end Z
/-! ZG: defs whose callers hold no guard (so that repr may be asked): a def's promise, its call, a law's end. -/
namespace Z
open PySem PySem.Spec PyProof.Rows L2
/-- a def's promise, where no guard is held -/
structure FnG (P : Program) (w : World) (K : Frag) (mg : Str → Option Value) (base : Heap) (CX : CXT) (k : Nat) (f : Addr) (fd : FuncData) (ps : List Str) (sp : Sp) : Prop where
  len : ∀ vs H Q E, sp vs H Q E → vs.length = ps.length
  run : ∀ (A : Around) (out : List Env) (s : Shared) (H : Hp) (ar : Args) (us : List Value) (vs : List V) (Q : VK) (E : XK),
    Room k A → A.guards = some [] → Env0 P w K mg base A out s H → BindsTo s fd ar (ps.zip us) → Vals vs us → sp vs H Q E →
    codeAny (model P w) A (.call (.ref f) ar) (CR CX out P w H s Q E) s
section
variable {P : Program} {w : World} {K : Frag} {mg : Str → Option Value} {base : Heap} {CX : CXT} {k : Nat} {f : Addr} {fd : FuncData} {ps : List Str} {sp : Sp}
theorem FnG.le {j : Nat} (F : FnG P w K mg base CX j f fd ps sp) (h : j ≤ k) : FnG P w K mg base CX k f fd ps sp :=
  ⟨F.len, fun A out s H ar us vs Q E r => F.run A out s H ar us vs Q E (r.mono h)⟩
theorem fnG_of {x qual : Str} {params : Arguments} {body : List Stmt} {scope : Scope} {dvs : List V} {kws : List (Str × V)} {N : List Str} (F : FunD K x qual params body scope dvs kws f fd) (Sc : FnScope N ps scope)
    (len : ∀ vs H Q E, sp vs H Q E → vs.length = ps.length)
    (hb : ∀ (cd : Value) (A : Around) (out : List Env) (s : Shared) (H : Hp) (vs : List V) (Q : VK) (E : XK), Room k (A.deeper (envOfC qual scope s.heap.objs.size f cd)) → A.guards = some [] → sp vs H Q E →
      ∃ t, PSs (cxOf CX P w K mg base N qual scope f cd A out s H E) body t ∧ t { nx := fun _ H' => Q .non H', rt := Q } (L2.start N vs) H) :
    FnG P w K mg base CX (k + 1) f fd ps sp := by
  obtain ⟨oc, od, dV, kV, doc, pm, an, cd, ct, osl, rfl, hlk, hcd, _, _⟩ := F.ex
  refine ⟨len, fun A out s H ar us vs Q E room gd e0 bd rv hsp => ?_⟩
  have inK : K.In s.heap := e0.mod.kin.keeps fun b o q => (e0.bs b o q).1
  refine codeAny_call_function room.depth (inK _ _ hlk) rfl Sc.co Sc.gen rfl (PySem.W.codeRec_of inK hcd) (bd _ _ _ _ ?_)
  refine wpAny_newFunctionEnv_cells Sc.kind (fun y hy => ?_) fun env he s1 new => ?_
  · obtain ⟨n, v⟩ := y
    rcases Sc.par n (List.of_mem_zip hy).1 with q | q
    · exact .inl q
    · exact .inr ⟨q, PySem.W.cellsFrom_some _ _ _ (.inl q)⟩
  · subst he
    refine ⟨(e0.mod.nolimit.keeps fun b o q => (e0.bs b o q).1).keeps new.toInCall.keep, codeAny_func ?_⟩
    obtain ⟨t, ht, hq⟩ := hb cd A out s H vs Q E (room.deeper _) gd hsp
    have I := inv_start (CX := CX) (E := E) Sc room.hd e0 (len _ _ _ _ hsp) rv new
    refine wpAny_mono (ht.run [] s1 (L2.start N vs) H _ I hq) (fun fl s' hs => ?_) fun _ _ z => z
    cases fl with
    | ret u =>
      obtain ⟨v, σ1, H', J, r1, q1⟩ := hs
      exact ⟨v, H', J.os, J.bare, J.base, J.hok, r1, q1⟩
    | next =>
      obtain ⟨σ1, H', J, q1⟩ := hs
      exact ⟨V.non, H', J.os, J.bare, J.base, J.hok, rfl, q1⟩
    | brk =>
      obtain ⟨_, _, _, z⟩ := hs
      exact z.elim
    | cont =>
      obtain ⟨_, _, _, z⟩ := hs
      exact z.elim
end
section
variable {X : Cx} {CX : CXT} {k : Nat} {f : Addr} {fd : FuncData} {ps : List Str} {sp : Sp} {E : XK} {x m : Str} {p pos apos : Pos} {e o : Expr} {es : List Expr} {ta : TE} {t : TA} {C : Addr}
theorem runG {pins : List (Addr × Obj)} {σ : L2.St} {H : Hp} {s : Shared} {Q : VK} {us : List Value} {vs : List V} (F : FnG X.prog X.w X.K X.mg X.base CX k f fd ps sp) (hr : Room k X.A) (gd : X.A.guards = some [])
    (hb : Binds X.K fd ps []) (hx : Passes CX X E) (I : Inv X pins σ H s) (r : Vals vs us) (h : sp vs H Q E) : wpAny (model X.prog X.w) X.A (call (.ref f) us) (EP X pins σ Q) X.xe s := by
  have hb2 := hb s us I.kIn
  rw [List.append_nil] at hb2
  have hl : us.length = ps.length := r.length.symm.trans (F.len _ _ _ _ h)
  refine wpAny_call (codeAny_mono (F.run X.A X.stack s H ⟨us, []⟩ us vs Q E hr gd I.env0 (hb2 hl) r h) fun res s1 q => ?_)
  match res, q with
  | .error er, q => exact hx pins σ H s er s1 I q
  | .ok (.ret u), q => exact I.after q
def tCallG (sp : Sp) (E : XK) (t : TA) : TE := fun σ H Q => t σ H fun vs H1 => sp vs H1 Q E
theorem peG_call (F : FnG X.prog X.w X.K X.mg X.base CX k f fd ps sp) (hr : Room k X.A) (gd : X.A.guards = some []) (hg : Gl X x) (hm : X.mg x = some (.ref f)) (hk : PySem.W.keepIn X.K (.ref f) = true) (hb : Binds X.K fd ps []) (hx : Passes CX X E)
    (ha : PA X (e :: es) t) (hd : (x == ("__debug__" : Str)) = false) (he : starEach (e :: es) X.env = (false, eval e X.env) :: starEach es X.env) (hp : (backTo pos (starEach es X.env)).any (·.1) = false) : PE X (.Call (.Name x p) (e :: es) [] pos) (tCallG sp E t) :=
  ⟨fun pins s σ H Q I h => wpAny_Call_Name_kw (ld_glob I hg hm (PySem.W.callWith_K (h₀ := X.base) I.ok.mod.kin hk (thn (ha.run pos pins s σ H _ I h) fun us s1 ⟨vs, H1, J, r, q⟩ => ⟨J.kIn, runG F hr gd hb hx J r q⟩) he hp) hd)⟩
theorem peG_call0 (F : FnG X.prog X.w X.K X.mg X.base CX k f fd ps sp) (hr : Room k X.A) (gd : X.A.guards = some []) (hg : Gl X x) (hm : X.mg x = some (.ref f)) (hk : PySem.W.keepIn X.K (.ref f) = true) (hb : Binds X.K fd ps []) (hx : Passes CX X E)
    (hd : (x == ("__debug__" : Str)) = false) : PE X (.Call (.Name x p) [] [] pos) (tCallG sp E tNil) :=
  ⟨fun pins s σ H Q I h => wpAny_Call_Name_kw (ld_glob I hg hm (PySem.W.callWith_K0 I.kIn hk (runG (us := []) F hr gd hb hx I .nil h)) hd)⟩
def tMethG (C : Addr) (m : Str) (sp : Sp) (E : XK) (ta : TE) (t : TA) : TE := fun σ H Q => ta σ H fun x H1 => ∃ a dx fs, x = .ref a ∧ H1 a = some (.ins C dx fs) ∧ fs.lookup m = none ∧ t σ H1 fun vs H2 => sp (x :: vs) H2 Q E
theorem peG_meth {pl : Sem Bool} (ho : PE X o ta) (c : Cls X.K C) (hm : Meth X.K C m f) (F : FnG X.prog X.w X.K X.mg X.base CX k f fd ps sp) (hr : Room k X.A) (gd : X.A.guards = some []) (hb : Binds X.K fd ps []) (hx : Passes CX X E) (ha : PA X (e :: es) t)
    (he : starEach (e :: es) X.env = (false, eval e X.env) :: starEach es X.env) (hp : (backTo pos (starEach es X.env)).any (·.1) = false)
    (ht : eval (.Call (.Attribute o m apos) (e :: es) [] pos) X.env = (do
      let ov ← eval o X.env
      standAt apos.atName
      let (f, first) ← holding [ov] (getMethod ov m pl)
      callWith pos f first (backTo pos (starEach (e :: es) X.env)) (backToKw pos (keywordEach [] X.env)))) : PE X (.Call (.Attribute o m apos) (e :: es) [] pos) (tMethG C m sp E ta t) := by
  refine ⟨fun pins s σ H Q I h => PySem.W.methodCall_KW (pl := pl) (thn (ho.run pins s σ H _ I h) fun u s1 ⟨x, H1, J, rx, a, dx, fs, ex, ea, nl, q⟩ => ?_) ht⟩
  subst ex
  cases rx
  exact getmeth_ok J ea c hm nl (PySem.W.callWith_K (first := [.ref a]) (h₀ := X.base) J.ok.mod.kin hm.kp (thn (ha.run pos pins s1 σ H1 _ J q) fun us s2 ⟨vs, H2, J2, r, q2⟩ => ⟨J2.kIn, runG (us := .ref a :: us) (vs := .ref a :: vs) F hr gd hb hx J2 (.cons rfl r) q2⟩) he hp)
theorem peG_meth0 {pl : Sem Bool} (ho : PE X o ta) (c : Cls X.K C) (hm : Meth X.K C m f) (F : FnG X.prog X.w X.K X.mg X.base CX k f fd ps sp) (hr : Room k X.A) (gd : X.A.guards = some []) (hb : Binds X.K fd ps []) (hx : Passes CX X E)
    (ht : eval (.Call (.Attribute o m apos) [] [] pos) X.env = (do
      let ov ← eval o X.env
      standAt apos.atName
      let (f, first) ← holding [ov] (getMethod ov m pl)
      callWith pos f first (backTo pos (starEach [] X.env)) (backToKw pos (keywordEach [] X.env)))) : PE X (.Call (.Attribute o m apos) [] [] pos) (tMethG C m sp E ta tNil) := by
  refine ⟨fun pins s σ H Q I h => PySem.W.methodCall_KW (pl := pl) (thn (ho.run pins s σ H _ I h) fun u s1 ⟨x, H1, J, rx, a, dx, fs, ex, ea, nl, q⟩ => ?_) ht⟩
  subst ex
  cases rx
  exact getmeth_ok J ea c hm nl (PySem.W.callWith_K0 (first := [.ref a]) J.kIn hm.kp (runG (us := [.ref a]) (vs := [.ref a]) F hr gd hb hx J (.cons rfl .nil) q))
end
/-! ### a law's end -/
section
variable {P : Program} {w : World} {K : Frag} {mg mb : Str → Option Value} {k : Nat} {fa a : Addr} {fd : FuncData} {x : Str} {sp : Sp} {s1 : Shared} {vs : List Value} {ns : List Int}
/-- the call, from a heap in which the script alone may be tracked -/
theorem lawG_core (inK : K.In s1.heap) (hns : s1.heap.Ns mainGlobals mg) (hb : s1.heap.Ns builtinsNs mb) (hbb : ∀ x : Str, x ≠ "__name__" → mb x = bootBuiltins x) (lim : s1.heap.NoLimit) (hg : s1.gens = #[])
    (ha : s1.heap.get? a = some { cls := .type "list", data := .seq vs.toArray }) (hr : Room k callerA)
    (F : ∀ base : Heap, K.In base → base.Ns mainGlobals mg → FnG P w K mg base CX0 k fa fd [x] sp) (bd : ∀ (s : Shared) (u : Value), BindsTo s fd ⟨[u], []⟩ [(x, u)])
    (hsp : ∀ H : Hp, Only H → SqL K H a (ns.map V.int) → sp [.ref a] H (fun v _ => v = .bl true) fun _ _ _ => False)
    (H : Hp) (hO : Only H) (hS : SqL K H a (ns.map V.int)) (hok : HOk P w H s1.heap) (hA : ∀ b, H b ≠ none → b = a) (hK : H a ≠ none → K.lookup a = none) :
    codeAny (model P w) callerA (.call (.ref fa) ⟨[.ref a], []⟩) (fun r s' => r = .ok (.ret (.bool true)) ∧ OldK s1.heap s'.heap ∧ s'.os = s1.os ∧ AllBare s'.gens) s1 := by
  have hid : ∀ {b : Addr} {o : Obj}, s1.heap.get? b = some o → (b = a → False) → (hidT s1.heap H).get? b = some o := fun {b o} e n => hidT_get e (by
    cases q : H b with
    | none => rfl
    | some u => exact (n (hA b (by rw [q]; simp))).elim)
  have ns : ∀ {b : Addr} {m : Str → Option Value}, s1.heap.Ns b m → (hidT s1.heap H).Ns b m := fun {b m} ⟨o, es, ep, e, d, r⟩ => ⟨o, es, ep, hid e (fun z => by
    subst z
    rw [ha] at e
    cases e
    exact nomatch (show Data.seq vs.toArray _ = Data.dict es ep from d)), d, r⟩
  have kb : K.In (hidT s1.heap H) := fun b o e => by
    refine hidT_get (inK b o e) ?_
    cases q : H b with
    | none => rfl
    | some u =>
      have z := hA b (by rw [q]; simp)
      subst z
      rw [hK (by rw [q]; simp)] at e
      cases e
  obtain ⟨mc, l1, l2⟩ := lim
  have e0 : Env0 P w K mg (hidT s1.heap H) callerA [] s1 H := ⟨rfl, ⟨kb, ns hns, ⟨mb, ns hb, hbb⟩, ⟨mc, ns l1, l2⟩⟩, fun b o e => of_hidT e, Nat.le_of_eq (hidT_size _ _), trivial, (fun b q => by cases q), hok, .of_eq hg⟩
  refine codeAny_mono ((F _ kb (ns hns)).run callerA [] s1 H ⟨[.ref a], []⟩ [.ref a] [.ref a] _ _ hr rfl e0 (bd s1 (.ref a)) (.cons rfl .nil) (hsp H hO hS)) fun r s' h => ?_
  match r, h with
  | .error e, h => exact False.elim h
  | .ok (.ret u), ⟨v, H', os, bare, un, ok', rv, q⟩ =>
    have q' : v = .bl true := q
    subst q'
    cases rv
    refine ⟨rfl, OldK.of_keep fun b o e => ?_, os, bare⟩
    cases q : H b with
    | none => exact un.keep b o e q (by intro z; cases z) (by intro z; cases z)
    | some u =>
      rcases hO b with z | ⟨ob, xs, z⟩
      · rw [q] at z
        cases z
      · have e1 := (hok b _ z).1
        rw [e] at e1
        cases e1
        exact (ok' b _ (un.frzs b _ _ z)).1
theorem lawG_call (inK : K.In s1.heap) (hns : s1.heap.Ns mainGlobals mg) (hb : s1.heap.Ns builtinsNs mb) (hbb : ∀ x : Str, x ≠ "__name__" → mb x = bootBuiltins x) (lim : s1.heap.NoLimit) (hg : s1.gens = #[])
    (ha : s1.heap.get? a = some { cls := .type "list", data := .seq vs.toArray }) (hi : IntsAre vs ns) (hl : ns.length ≤ sizeLine) (hr : Room k callerA)
    (F : ∀ base : Heap, K.In base → base.Ns mainGlobals mg → FnG P w K mg base CX0 k fa fd [x] sp) (bd : ∀ (s : Shared) (u : Value), BindsTo s fd ⟨[u], []⟩ [(x, u)])
    (hsp : ∀ H : Hp, Only H → SqL K H a (ns.map V.int) → sp [.ref a] H (fun v _ => v = .bl true) fun _ _ _ => False) :
    codeAny (model P w) callerA (.call (.ref fa) ⟨[.ref a], []⟩) (fun r s' => r = .ok (.ret (.bool true)) ∧ OldK s1.heap s'.heap ∧ s'.os = s1.os ∧ AllBare s'.gens) s1 := by
  have core := lawG_core inK hns hb hbb lim hg ha hr F bd hsp
  have rv := vals_of_ints hi
  have ln := hi.length
  cases hk : K.lookup a with
  | some o =>
    have e := inK a o hk
    rw [ha] at e
    cases e
    exact core (fun _ => none) (fun _ => .inl rfl) (.inr ⟨_, vs.toArray, _, hk, rfl, rfl, rfl, by rw [List.size_toArray, ln]; exact hl, rv⟩) (fun b u z => nomatch z) (fun b z => (z rfl).elim) fun z => (z rfl).elim
  | none =>
    let ob : Obj := { cls := .type "list", data := .seq vs.toArray }
    have at_ : upd (fun _ => none) a (.frz ob (.lst (ns.map V.int))) a = some (.frz ob (.lst (ns.map V.int))) := upd_same
    refine core (upd (fun _ => none) a (.frz ob (.lst (ns.map V.int)))) (fun b => ?_) (.inl (.inr ⟨ob, at_⟩)) (fun b u z => ?_) (fun b z => ?_) fun _ => hk
    · by_cases q : b = a
      · subst q; exact .inr ⟨_, _, at_⟩
      · exact .inl (upd_ne q)
    · by_cases q : b = a
      · subst q
        rw [at_] at z
        cases z
        exact ⟨ha, by rw [List.length_map]; exact hl, vs, _, rv, ha⟩
      · rw [upd_ne q] at z
        cases z
    · by_cases q : b = a
      · exact q
      · exact (z (upd_ne q)).elim
end
/-- a law over a head by facts -/
theorem walkG {l : PySem.W.OpenLaw} {n k : Nat} {q : Program} {loose : List Str} {XP : (Str → Option Value) → Heap → Prop} {YP : World → Heap → Prop} {d : DefRec} {x : Str}
    (hn : l.most = some n) (hn2 : n ≤ sizeLine) (hdf : d.params.defaults = []) (hr : Room k callerA)
    (F : ∀ (w : World) (mg : Str → Option Value) (fa : Addr) (h : Heap), YP w h → h.Ns mainGlobals mg → mg d.name = some (.ref fa) →
      ∃ (K : Frag) (fd : FuncData) (sp : Sp), K.In h ∧ (∀ (s : Shared) (u : Value), BindsTo s fd ⟨[u], []⟩ [(x, u)]) ∧
        (∀ (H : Hp) (a : Addr) (ns : List Int), ns.length ≤ n → SqL K H a (ns.map V.int) → sp [.ref a] H (fun v _ => v = .bl true) fun _ _ _ => False) ∧
        ∀ base : Heap, K.In base → base.Ns mainGlobals mg → FnG l.prog w K mg base CX0 k fa fd [x] sp) :
    PySem.W.WalkO q loose XP YP l.row.toRowW d [] (fun f vs => PySem.call f vs) :=
  Att.attach_call hn hdf fun w s0 s1 mg mb fa o pm cd doc a vs ns G Y ho hd hcd hmg hobj hints hlen hg => by
    obtain ⟨K, fd, sp, KX, hb, hsp, hF⟩ := F w mg fa _ Y G.T.g hmg
    exact lawG_call KX G.T.g G.T.b G.T.builtins G.T.nolimit hg hobj hints (Nat.le_trans hlen hn2) hr hF hb fun H _ hS => hsp H a ns hlen hS
end Z
/-! ZDef: defs, their promises over data, their calls; instances without fields of their own, methods. -/
namespace Z
open PySem PySem.Spec PyProof.Rows L2
/-- a promise over data: from the arguments, the store, and what is wanted of the value and the store -/
abbrev SpD := List Da → Sto → PoE → Prop
def Mono (sp : SpD) : Prop := ∀ ds Θ P P', (∀ d Θ', P d Θ' → P' d Θ') → sp ds Θ P → sp ds Θ P'
def toSp (K : Frag) (sp : SpD) : Sp := fun vs H1 Q _ => ∃ H ds Θ, Same H H1 ∧ DvAll K H vs ds ∧ (∀ a o, Θ a = some o → H a = none ∧ ObOk K H H1 a o) ∧
  sp ds Θ fun d Θ' => ∀ v H' H2, Fr Θ H H1 Θ' H' H2 → Rep K [] H' H2 [] Θ' → Dv K H' v d → Q v H2
/-- a def of the module that keeps its promise -/
structure Fn (P : Program) (w : World) (K : Frag) (mg : Str → Option Value) (base : Heap) (k : Nat) (x : Str) (sp : SpD) : Prop where
  ex : ∃ (f : Addr) (fd : FuncData) (ps : List Str), FnG P w K mg base CX0 k f fd ps (toSp K sp) ∧ mg x = some (.ref f) ∧ PySem.W.keepIn K (.ref f) = true ∧ Binds K fd ps []
  mono : Mono sp
/-- a method -/
structure Mt (P : Program) (w : World) (K : Frag) (mg : Str → Option Value) (base : Heap) (k : Nat) (C : Addr) (m : Str) (sp : SpD) : Prop where
  ex : ∃ (f : Addr) (fd : FuncData) (ps : List Str), Cls K C ∧ Meth K C m f ∧ FnG P w K mg base CX0 k f fd ps (toSp K sp) ∧ Binds K fd ps []
  mono : Mono sp
section
variable {P : Program} {w : World} {K : Frag} {mg : Str → Option Value} {base : Heap} {k : Nat} {x : Str} {sp : SpD}
theorem Fn.le {j : Nat} (F : Fn P w K mg base j x sp) (h : j ≤ k) : Fn P w K mg base k x sp := by
  obtain ⟨⟨f, fd, ps, a, b, c, d⟩, m⟩ := F
  exact ⟨⟨f, fd, ps, a.le h, b, c, d⟩, m⟩
abbrev statOf (P : Program) (w : World) (K : Frag) (mg : Str → Option Value) (base : Heap) (k : Nat) (N : List Str) (sc : Scope) : Stat := ⟨P, w, K, mg, base, k, N, sc, fun _ => true⟩
def g0 (N : List Str) (ds : List Da) : Gam := ds.map some ++ List.replicate (N.length - ds.length) none
/-- what a def may end with: the value; or a list of its own, that changes no more -/
def retD (Post : PoE) : PoE := fun d Θ' => (∃ Θ'', LeS Θ'' Θ' ∧ Post d Θ'') ∨ ∃ p ds, d = .obj p ∧ Θ' p = some (.lst ds) ∧ ∃ Θ'', LeS Θ'' (delS Θ' p) ∧ Post (.lst ds) Θ''
theorem body_ok {qual : Str} {params : Arguments} {body : List Stmt} {scope : Scope} {dvs : List V} {kws : List (Str × V)} {f : Addr} {fd : FuncData} {N ps : List Str} (F : FunD K x qual params body scope dvs kws f fd) (S : FnScope N ps scope)
    (hb : ∀ ds Θ Post, sp ds Θ Post → ds.length = ps.length ∧ ex (statOf P w K mg base k N scope) body (g0 N ds) Θ { nx := fun _ Θ' => ∃ Θ'', LeS Θ'' Θ' ∧ Post .non Θ'', rt := retD Post }) : FnG P w K mg base CX0 (k + 1) f fd ps (toSp K sp) := by
  refine fnG_of F S (fun vs H1 Q E h => ?_) fun cdv A outer s H1 vs Q E hr gd h => ?_
  · obtain ⟨H, ds, Θ, e, r, st, q⟩ := h
    rw [r.length]
    exact (hb ds Θ _ q).1
  · obtain ⟨H, ds, Θ, e, r, st, q⟩ := h
    obtain ⟨hl, he⟩ := hb ds Θ _ q
    have ok : Ok (statOf P w K mg base k N scope) (cxOf CX0 P w K mg base N qual scope f cdv A outer s H1 E).nox := ⟨rfl, rfl, rfl, rfl, rfl, hr, gd, rfl, rfl, rfl, rfl, PassesOwn.never⟩
    refine ⟨wSs (statOf P w K mg base k N scope) body, PSs.nox (w_ss ok body), ?_⟩
    refine he (L2.start N vs) H H1 ⟨e, ?_, fun i d hi => ?_, st⟩ _ ⟨fun σ' Γ' H' H2 Θ' p f R => ?_, fun v d H' H2 Θ' p f R rv => ?_, fun _ _ _ _ _ p => p.elim, fun _ _ _ _ _ p => p.elim⟩
    · unfold g0 L2.start
      rw [List.length_append, List.length_append, List.length_map, List.length_map, List.length_replicate, List.length_replicate, r.length]
    · have hi' : i < ds.length := by
        by_cases z : i < ds.length
        · exact z
        · unfold g0 at hi
          rw [List.getElem?_append_right (by simpa using z), List.getElem?_replicate] at hi
          split at hi <;> cases hi
      have hd : ds[i]? = some d := by
        unfold g0 at hi
        rw [List.getElem?_append_left (by simpa using hi'), List.getElem?_map] at hi
        cases z : ds[i]? with
        | none => rw [z] at hi; cases hi
        | some u => rw [z] at hi; cases hi; rfl
      obtain ⟨v, hv, rv⟩ := r.getd hd
      refine ⟨v, ?_, rv⟩
      unfold L2.start
      rw [List.getElem?_append_left (by rw [List.length_map, r.length]; exact hi'), List.getElem?_map, hv]
      rfl
    · obtain ⟨Θ'', l, p⟩ := p
      exact p .non H' H2 (f.le l) (R.le l).bare .non
    · rcases p with ⟨Θ'', l, p⟩ | ⟨q, ds', ed, hq, Θ'', l, p⟩
      · exact p v H' H2 (f.le l) (R.le l) rv
      · subst ed
        cases rv
        obtain ⟨vs', _, R2, f2, r2⟩ := R.frz hq
        exact p _ _ _ ((f.trans R f2).le l) (R2.le l) r2
theorem fn_ok {qual : Str} {params : Arguments} {body : List Stmt} {scope : Scope} {dvs : List V} {kws : List (Str × V)} {f : Addr} {fd : FuncData} {N ps : List Str} (F : FunD K x qual params body scope dvs kws f fd) (hm : mg x = some (.ref f)) (b : Binds K fd ps []) (S : FnScope N ps scope) (m : Mono sp)
    (hb : ∀ ds Θ Post, sp ds Θ Post → ds.length = ps.length ∧ ex (statOf P w K mg base k N scope) body (g0 N ds) Θ { nx := fun _ Θ' => ∃ Θ'', LeS Θ'' Θ' ∧ Post .non Θ'', rt := retD Post }) : Fn P w K mg base (k + 1) x sp :=
  ⟨⟨f, fd, ps, body_ok F S hb, hm, F.kp, b⟩, m⟩
theorem mt_ok {C : Addr} {qual : Str} {params : Arguments} {body : List Stmt} {scope : Scope} {dvs : List V} {kws : List (Str × V)} {f : Addr} {fd : FuncData} {N ps : List Str} {nm : Str} (F : FunD K nm qual params body scope dvs kws f fd) (c : Cls K C) (hm : Meth K C x f) (b : Binds K fd ps []) (S : FnScope N ps scope) (m : Mono sp)
    (hb : ∀ ds Θ Post, sp ds Θ Post → ds.length = ps.length ∧ ex (statOf P w K mg base k N scope) body (g0 N ds) Θ { nx := fun _ Θ' => ∃ Θ'', LeS Θ'' Θ' ∧ Post .non Θ'', rt := retD Post }) : Mt P w K mg base (k + 1) C x sp :=
  ⟨⟨f, fd, ps, c, hm, body_ok F S hb, b⟩, m⟩
end
section
variable {S : Stat} {e a b c : Expr} {es ifs : List Expr} {Γ Γ' : Gam} {Θ Θ' : Sto} {Post Post' : PoE} {pos p : Pos}
abbrev FnS (S : Stat) (k : Nat) (x : Str) (sp : SpD) : Prop := Fn S.P S.w S.K S.mg S.base k x sp
abbrev MtS (S : Stat) (k : Nat) (C : Addr) (m : Str) (sp : SpD) : Prop := Mt S.P S.w S.K S.mg S.base k C m sp
theorem FnOk_of {X : Cx} (o : Ok S X) {k : Nat} {f : Addr} {fd : FuncData} {ps : List Str} {sp : Sp} (F : FnG S.P S.w S.K S.mg S.base CX0 k f fd ps sp) : FnG X.prog X.w X.K X.mg X.base CX0 k f fd ps sp := by
  rw [o.P, o.w, o.K, o.mg, o.base]; exact F
/-- the call's promise, met -/
theorem call_run {sp : SpD} {σ : L2.St} {H H1 : Hp} {Q : VK} {vs : List V} {ds : List Da} {E : XK} (m : Mono sp) (R : Rep S.K σ H H1 Γ Θ) (r : DvAll S.K H vs ds) (h : sp ds Θ Post)
    (k : ∀ v d H' H2 Θ', Post d Θ' → Fr Θ H H1 Θ' H' H2 → Rep S.K σ H' H2 Γ Θ' → Dv S.K H' v d → Q v H2) : toSp S.K sp vs H1 Q E :=
  ⟨H, ds, Θ, R.ex, r, R.sto, m _ _ _ _ (fun d Θ' p v H' H2 f R' rv => k v d H' H2 Θ' p f ⟨R'.ex, R.len, fun i d e => by
    obtain ⟨u, hu, ru⟩ := R.env i d e
    exact ⟨u, hu, ru.mono f.ke⟩, R'.sto⟩ rv) h⟩
theorem ev_call {k : Nat} {x : Str} {sp : SpD} (F : FnS S k x sp) (hl : k ≤ S.lv) (hg : Gs S x) (h : ea S (e :: es) Γ Θ fun ds Θ1 => sp ds Θ1 Post) (hdb : (x == ("__debug__" : Str)) = false := by decide)
    (he : NoStar e := by intro _ _; rfl) (hpl : NoStars es := by intro _ _; rfl) : ev S (.Call (.Name x p) (e :: es) [] pos) Γ Θ Post := by
  obtain ⟨⟨f, fd, ps, F1, hm, kp, b⟩, m⟩ := F
  exact ev_mk (fun X o => peG_call (E := E0) (FnOk_of o F1) (o.room.mono hl) o.gd (o.gl hg) (by rw [o.mg]; exact hm) (by rw [o.K]; exact kp) (by rw [o.K]; exact b) pass0 (w_a o _) hdb (he _ _) (hpl _ _)) fun σ H H1 R Q q => h σ H H1 R _ fun vs ds H' H2 Θ1 hs f R' r => by
    exact call_run (E := E0) m R' r hs fun v d H'' H3 Θ2 p f2 R2 rv => q v d H'' H3 Θ2 p (f.trans R' f2) R2 rv
theorem ev_call0 {k : Nat} {x : Str} {sp : SpD} (F : FnS S k x sp) (hl : k ≤ S.lv) (hg : Gs S x) (h : sp [] Θ Post) (hdb : (x == ("__debug__" : Str)) = false := by decide) : ev S (.Call (.Name x p) [] [] pos) Γ Θ Post := by
  obtain ⟨⟨f, fd, ps, F1, hm, kp, b⟩, m⟩ := F
  exact ev_mk (fun X o => peG_call0 (E := E0) (FnOk_of o F1) (o.room.mono hl) o.gd (o.gl hg) (by rw [o.mg]; exact hm) (by rw [o.K]; exact kp) (by rw [o.K]; exact b) pass0 hdb) fun σ H H1 R Q q => call_run (E := E0) m R .nil h q
/-! ### instances -/
theorem PAll.lookup {κ : Type} [BEq κ] [LawfulBEq κ] {K : Frag} {H : Hp} {m : κ} : ∀ {gs : List (κ × V)} {fs : List (κ × Da)}, PAll K H gs fs → (∀ d, fs.lookup m = some d → ∃ v, gs.lookup m = some v ∧ Dv K H v d) ∧ (fs.lookup m = none → gs.lookup m = none)
  | [], [], _ => ⟨fun d e => by simp at e, fun _ => rfl⟩
  | [], (f, d) :: fs, h => by have := h.1; simp at this
  | (g, v) :: gs, [], h => by have := h.1; simp at this
  | (g, v) :: gs, (f, d) :: fs, h => by
    obtain ⟨h1, h2⟩ := h
    simp only [List.map_cons, List.cons.injEq] at h1
    obtain ⟨e, h1⟩ := h1
    subst e
    rw [List.map_cons, List.map_cons] at h2
    cases h2 with
    | cons r rs =>
      have ih := PAll.lookup (m := m) (gs := gs) (fs := fs) ⟨h1, rs⟩
      rw [List.lookup_cons, List.lookup_cons]
      cases q : m == g with
      | true => exact ⟨fun d' e => by cases e; exact ⟨v, rfl, r⟩, fun e => by cases e⟩
      | false => exact ih
/-- o.f -/
theorem ev_fld {f : Str} (h : ev S e Γ Θ fun x Θ1 => ∃ a C fs d, x = .obj a ∧ Θ1 a = some (.ins C fs) ∧ Cls S.K C ∧ NoAttr S.K C f ∧ fs.lookup f = some d ∧ Post d Θ1) (hb : ∀ env : Env, attributeBase e f env (eval e env) = eval e env := by intro _; rfl) : ev S (.Attribute e f pos) Γ Θ Post :=
  ev_mk (t := tFld S.K (wE S e) f) (fun X o => o.K ▸ pe_fld (w_e o e) (hb _)) fun σ H H1 R Q k => h σ H H1 R _ fun v d H' H2 Θ1 ⟨a, C, fs, d, ed, ha, c, n, l, po⟩ f R' r => by
    subst ed
    cases r
    obtain ⟨_, dx, gs, e, pa⟩ := R'.sto a _ ha
    obtain ⟨u, hu, ru⟩ := pa.lookup.1 d l
    exact ⟨a, C, dx, gs, u, rfl, e, c, n, hu, k _ _ _ _ _ po f R' ru⟩
theorem ev_meth {k : Nat} {C : Addr} {m : Str} {sp : SpD} {apos : Pos} (F : MtS S k C m sp) (hl : k ≤ S.lv) (h : ev S a Γ Θ fun x Θ1 => ∃ q fs, x = .obj q ∧ Θ1 q = some (.ins C fs) ∧ fs.lookup m = none ∧ ea S (e :: es) Γ Θ1 fun ds Θ2 => sp (.obj q :: ds) Θ2 Post)
    (he : NoStar e := by intro _ _; rfl) (hpl : NoStars es := by intro _ _; rfl) {pl : Env → Sem Bool}
    (ht : ∀ env : Env, eval (.Call (.Attribute a m apos) (e :: es) [] pos) env = (do
      let ov ← eval a env
      standAt apos.atName
      let (f, first) ← holding [ov] (getMethod ov m (pl env))
      callWith pos f first (backTo pos (starEach (e :: es) env)) (backToKw pos (keywordEach [] env))) := by intro _; rfl) : ev S (.Call (.Attribute a m apos) (e :: es) [] pos) Γ Θ Post := by
  obtain ⟨⟨f, fd, ps, c, me, F1, b⟩, mo⟩ := F
  exact ev_mk (fun X o => peG_meth (E := E0) (pl := pl _) (w_e o a) (by rw [o.K]; exact c) (by rw [o.K]; exact me) (FnOk_of o F1) (o.room.mono hl) o.gd (by rw [o.K]; exact b) pass0 (w_a o _) (he _ _) (hpl _ _) (ht _)) fun σ H H1 R Q q => h σ H H1 R _ fun v d H' H2 Θ1 ⟨z, fs, ed, ha, l, h2⟩ f R' r => by
    subst ed
    cases r
    obtain ⟨_, dx, gs, e, pa⟩ := R'.sto z _ ha
    refine ⟨z, dx, gs, rfl, e, pa.lookup.2 l, h2 σ H' H2 R' _ fun vs ds H'' H3 Θ2 hs f2 R2 r2 => ?_⟩
    exact call_run (E := E0) mo R2 (.cons (.obj z) r2) hs fun v d H4 H5 Θ3 p f3 R3 rv => q v d _ _ _ p ((f.trans R' f2).trans R2 f3) R3 rv
theorem ev_meth0 {k : Nat} {C : Addr} {m : Str} {sp : SpD} {apos : Pos} (F : MtS S k C m sp) (hl : k ≤ S.lv) (h : ev S a Γ Θ fun x Θ1 => ∃ q fs, x = .obj q ∧ Θ1 q = some (.ins C fs) ∧ fs.lookup m = none ∧ sp [.obj q] Θ1 Post) {pl : Env → Sem Bool}
    (ht : ∀ env : Env, eval (.Call (.Attribute a m apos) [] [] pos) env = (do
      let ov ← eval a env
      standAt apos.atName
      let (f, first) ← holding [ov] (getMethod ov m (pl env))
      callWith pos f first (backTo pos (starEach [] env)) (backToKw pos (keywordEach [] env))) := by intro _; rfl) : ev S (.Call (.Attribute a m apos) [] [] pos) Γ Θ Post := by
  obtain ⟨⟨f, fd, ps, c, me, F1, b⟩, mo⟩ := F
  exact ev_mk (fun X o => peG_meth0 (E := E0) (pl := pl _) (w_e o a) (by rw [o.K]; exact c) (by rw [o.K]; exact me) (FnOk_of o F1) (o.room.mono hl) o.gd (by rw [o.K]; exact b) pass0 (ht _)) fun σ H H1 R Q q => h σ H H1 R _ fun v d H' H2 Θ1 ⟨z, fs, ed, ha, l, h2⟩ f R' r => by
    subst ed
    cases r
    obtain ⟨_, dx, gs, e, pa⟩ := R'.sto z _ ha
    refine ⟨z, dx, gs, rfl, e, pa.lookup.2 l, ?_⟩
    exact call_run (E := E0) mo R' (.one (.obj z)) h2 fun v d H4 H5 Θ3 p f3 R3 rv => q v d _ _ _ p (f.trans R' f3) R3 rv
/-- C(), the class has no __init__ of its own -/
structure Mk0 (K : Frag) (C : Addr) : Prop where
  makes : PySem.W.makesIn K C = true
  init : PySem.W.findIn K (.ref C) "__init__" = some (some (.builtin "object.__init__"))
  kp : PySem.W.keepIn K (.ref C) = true
theorem run_make0 {X : Cx} {C : Addr} {pins : List (Addr × Obj)} {σ : L2.St} {H : Hp} {s : Shared} {Q : VK} (M : Mk0 X.K C) (I : Inv X pins σ H s)
    (h : ∀ x dx, H x = none → H dx = none → dx ≠ x → Q (.ref x) (upd (upd H dx (.own x)) x (.ins C dx []))) : wpAny (model X.prog X.w) X.A (call (.ref C) []) (EP X pins σ Q) X.xe s := by
  have hq := h (s.heap.objs.size + 1) s.heap.objs.size (I.hok.fresh (Nat.le_succ _)) (I.hok.fresh (Nat.le_refl _)) (Nat.ne_of_lt (Nat.lt_succ_self _))
  have I2 := Inv.made (C := C) I
  have Y := PySem.W.makes_of (M := model X.prog X.w) I.kIn M.makes
  have e2 : ((s.heap.push PySem.W.emptyDict).push (PySem.W.instObj C s.heap.objs.size)).get? (s.heap.objs.size + 1) = some (PySem.W.instObj C s.heap.objs.size) := by
    have := Heap.get?_push_size (s.heap.push PySem.W.emptyDict) (o := PySem.W.instObj C s.heap.objs.size) rfl
    rwa [Heap.size_push] at this
  have t1 : PySem.W.Looks (model X.prog X.w) ((s.heap.push PySem.W.emptyDict).push (PySem.W.instObj C s.heap.objs.size)) (typeOf (.ref (s.heap.objs.size + 1))) (.ref C) := (PySem.W.Looks.ld e2).andThen .now
  have t2 : PySem.W.Looks (model X.prog X.w) ((s.heap.push PySem.W.emptyDict).push (PySem.W.instObj C s.heap.objs.size)) (isInstance (.ref (s.heap.objs.size + 1)) (.type "object")) true := t1.andThen (Y.top.keeps fun b o e => Heap.get?_push_of_some _ (Heap.get?_push_of_some _ e))
  refine wpAny_call (make_map0 I.kIn M.makes M.init (fun self => PySem.W.Looks.of_pure (PySem.W.oi_bind self)) ?_)
  refine codeAny_call_builtin PySem.W.oi_plain PySem.W.entry_oi (@PySem.W.check_slot (model X.prog X.w) _ _ _ "object.__init__" "object" "__init__" (.ref (s.heap.objs.size + 1)) [] [] _ PySem.W.oi_kind PySem.W.oi_split t2 (PySem.W.oi_args (.ref (s.heap.objs.size + 1))) ?_)
  rw [PySem.W.oi_run]
  exact wpAny_pure (And.intro rfl ⟨V.ref (s.heap.objs.size + 1), _, I2, rfl, hq⟩)
def tMake0 (C : Addr) : TE := fun _ H Q => ∀ x dx, H x = none → H dx = none → dx ≠ x → Q (.ref x) (upd (upd H dx (.own x)) x (.ins C dx []))
theorem pe_mk0 {X : Cx} {C : Addr} {x : Str} (M : Mk0 X.K C) (hg : Gl X x) (hm : X.mg x = some (.ref C)) (hdb : (x == ("__debug__" : Str)) = false := by decide) : PE X (.Call (.Name x p) [] [] pos) (tMake0 C) := by
  refine ⟨fun pins s σ H Q I h => ?_⟩
  refine wpAny_Call_Name_kw (ld_glob I hg hm ?_ hdb)
  exact PySem.W.callWith_K0 I.kIn M.kp (run_make0 M I h)
theorem ev_make0 {C : Addr} {x : Str} (M : Mk0 S.K C) (hg : Gs S x) (hm : S.mg x = some (.ref C)) (h : ∀ q, Θ q = none → Post (.obj q) (updS Θ q (.ins C []))) (hdb : (x == ("__debug__" : Str)) = false := by decide) : ev S (.Call (.Name x p) [] [] pos) Γ Θ Post :=
  ev_mk (t := tMake0 C) (fun X o => pe_mk0 (by rw [o.K]; exact M) (o.gl hg) (by rw [o.mg]; exact hm) hdb) fun σ H H1 R Q k => by
    intro x dx hx hdx ne
    obtain ⟨n1, n2⟩ := R.no hx
    have hx' : (upd H1 dx (.own x)) x = none := by rw [upd_ne (fun z => ne z.symm)]; exact hx
    have R1 : Rep S.K σ H (upd H1 dx (.own x)) Γ Θ := ⟨same_updB R.ex (R.no hdx).1, R.len, R.env, fun q o e => by
      obtain ⟨a, b⟩ := R.sto q o e
      exact ⟨a, b.mono (Same.refl _) fun u hu => by rw [upd_ne (ne_of_none hu hdx)]; exact hu⟩⟩
    have f1 : Fr Θ H H1 Θ H (upd H1 dx (.own x)) := ⟨Same.refl _, fun q o _ e => by rw [upd_ne (ne_of_none e hdx)]; exact e, fun q o e => ⟨o, by rw [upd_ne (ne_of_none e hdx)]; exact e⟩, fun q z => by
      rcases z with z | z
      · exact .inl z
      · exact .inr (.inl z)⟩
    exact k _ _ _ _ _ (h x n2) (f1.trans R1 (Fr.newM hx')) (R1.newM hx' ⟨dx, [], upd_same, rfl, .nil⟩) (.obj x)
/-! ### methods of lists -/
theorem ty_lst {σ : L2.St} {H H1 : Hp} {q : Addr} {ds : List Da} (R : Rep S.K σ H H1 Γ Θ) (h : Θ q = some (.lst ds)) : tyV S.K "list" (.ref q) H1 := by
  obtain ⟨_, vs, e, _⟩ := R.sto q _ h
  exact .inl ⟨rfl, vs, SqL.of e⟩
/-- xs.append(d) -/
theorem ev_append {apos : Pos} (h : ev S a Γ Θ fun x Θ1 => ∃ q ds0, x = .obj q ∧ Θ1 q = some (.lst ds0) ∧ ev S e Γ Θ1 fun d Θ2 => ∃ ds, Θ2 q = some (.lst ds) ∧ ds.length < sizeLine ∧ Post .non (updS Θ2 q (.lst (ds ++ [d])))) (hs : NoStar e := by intro _ _; rfl)
    (hp : ∀ X, Ok S X → PE X (.Call (.Attribute a "append" apos) [e] [] pos) (tBM S.K "list" rAppend (wE S a) (wA S [e]))) : ev S (.Call (.Attribute a "append" apos) [e] [] pos) Γ Θ Post :=
  ev_mk hp fun σ H H1 R Q k => h σ H H1 R _ fun v d H' H2 Θ1 ⟨q, ds0, ed, hq, h2⟩ f R' r => by
    subst ed
    cases r
    refine ⟨ty_lst R' hq, ea1 h2 hs σ H' H2 R' _ fun vs xs H'' H3 Θ2 ⟨d, ed, ds, hq2, hl, po⟩ f2 R2 rs => ?_⟩
    subst ed
    cases rs with
    | cons r1 r2 =>
      cases r2
      obtain ⟨_, ws, e, rw_⟩ := R2.sto q _ hq2
      refine ⟨q, ws, _, rfl, rfl, e, by rw [rw_.length]; exact hl, k _ _ _ _ _ po ((f.trans R' f2).trans R2 (Fr.chg hq2)) (R2.chg hq2 ⟨_, upd_same, rw_.append (.one r1)⟩) .non⟩
/-- xs.extend(ys), both lists of the store -/
theorem ev_extend {apos : Pos} (h : ev S a Γ Θ fun x Θ1 => ∃ q ds0, x = .obj q ∧ Θ1 q = some (.lst ds0) ∧ ev S e Γ Θ1 fun d Θ2 => ∃ q2 ds es', d = .obj q2 ∧ Θ2 q = some (.lst ds) ∧ Θ2 q2 = some (.lst es') ∧ ds.length + es'.length ≤ sizeLine ∧ Post .non (updS Θ2 q (.lst (ds ++ es')))) (hs : NoStar e := by intro _ _; rfl)
    (hp : ∀ X, Ok S X → PE X (.Call (.Attribute a "extend" apos) [e] [] pos) (tBM S.K "list" rExtend (wE S a) (wA S [e]))) : ev S (.Call (.Attribute a "extend" apos) [e] [] pos) Γ Θ Post :=
  ev_mk hp fun σ H H1 R Q k => h σ H H1 R _ fun v d H' H2 Θ1 ⟨q, ds0, ed, hq, h2⟩ f R' r => by
    subst ed
    cases r
    refine ⟨ty_lst R' hq, ea1 h2 hs σ H' H2 R' _ fun vs xs H'' H3 Θ2 ⟨d, ed, q2, ds, es', e2, hq2, hq3, hl, po⟩ f2 R2 rs => ?_⟩
    subst ed e2
    cases rs with
    | cons r1 r2 =>
      cases r2
      cases r1
      obtain ⟨_, ws, e, rw_⟩ := R2.sto q _ hq2
      obtain ⟨_, ws2, e2, rw2⟩ := R2.sto q2 _ hq3
      refine ⟨q, q2, ws, ws2, rfl, rfl, e, e2, by rw [rw_.length, rw2.length]; exact hl, k _ _ _ _ _ po ((f.trans R' f2).trans R2 (Fr.chg hq2)) (R2.chg hq2 ⟨_, upd_same, rw_.append rw2⟩) .non⟩
theorem pe_app {X : Cx} {apos : Pos} (o : Ok S X) (he : starEach [e] X.env = (false, eval e X.env) :: starEach [] X.env := by rfl) (hh : PE X (.Call (.Attribute a "append" apos) [e] [] pos) (tBM X.K "list" rAppend (wE S a) (wA S [e]))) : PE X (.Call (.Attribute a "append" apos) [e] [] pos) (tBM S.K "list" rAppend (wE S a) (wA S [e])) := o.K ▸ hh
theorem pe_ext {X : Cx} {apos : Pos} (o : Ok S X) (hh : PE X (.Call (.Attribute a "extend" apos) [e] [] pos) (tBM X.K "list" rExtend (wE S a) (wA S [e]))) : PE X (.Call (.Attribute a "extend" apos) [e] [] pos) (tBM S.K "list" rExtend (wE S a) (wA S [e])) := o.K ▸ hh
end
end Z
/-! ZMore: repr, isinstance, + and * of sequences, dicts with tuples for keys, their values under a lock. -/
namespace Z
open PySem PySem.Spec PyProof.Rows L2
section
variable {S : Stat} {e a b c : Expr} {es ifs : List Expr} {Γ Γ' : Gam} {Θ Θ' : Sto} {Post Post' : PoE} {pos p : Pos}
/-! ### repr -/
def rRepr (K : Frag) : List V → Hp → VK → Prop := fun xs H Q => ∃ (a : Addr) (d : PyData), xs = [.ref a] ∧ Dp K H (.ref a) d ∧ d.showable = true ∧ d.hasDict = false ∧ d.depth ≤ 64 ∧ d.shown.length ≤ sizeLine ∧ Q (.str d.shown) H
theorem call_repr {X : Cx} (gd : X.A.guards = some []) (hu : X.A.units + 65 < cLine) : CallR X (.builtin "repr") (rRepr X.K) := by
  intro pins s σ H xs us Q I r h
  obtain ⟨a, d, rfl, hd, hs, hn, hdp, hsz, q⟩ := h
  cases r with
  | cons r1 r2 =>
    cases r2
    cases r1
    obtain ⟨as, rd⟩ := Dp.reads I d _ _ hd rfl
    exact repr_of_reads' (h₀ := s.heap) rd hs (fun z => by rw [hn] at z; cases z) gd (by omega) (fun _ _ h => h) (fun h' u tk k => ⟨.str d.shown, H, I.kept (t' := tk) k, ⟨u, rfl⟩, q⟩) hsz
theorem ev_repr (hx : Bs S "repr" (.builtin "repr")) (h : ev S e Γ Θ fun x Θ1 => ∃ d, toP x = some d ∧ (∃ ds, x = .lst ds ∨ x = .tup ds) ∧ d.showable = true ∧ d.hasDict = false ∧ d.depth ≤ 64 ∧ d.shown.length ≤ sizeLine ∧ Post (.str d.shown) Θ1) (hs : NoStar e := by intro _ _; rfl) : ev S (.Call (.Name "repr" p) [e] [] pos) Γ Θ Post :=
  ev_callB (r := rRepr S.K) hx (fun X o => o.K ▸ call_repr o.gd (units65 o)) (ea_cons (h.imp fun x Θ1 ⟨d, e1, ⟨ds, e2⟩, h1, h2, h3, h4, po⟩ => ea_nil fun σ H H1 R vs rs Q k => by
    cases rs with
    | cons r1 r2 =>
      cases r2
      have dp := dp_same R.ex (dp_of r1 e1)
      rcases e2 with e2 | e2
      · subst e2
        cases r1 with
        | lst s q => exact ⟨_, d, rfl, dp, h1, h2, h3, h4, k _ _ _ _ _ po Fr.refl R (.str _)⟩
      · subst e2
        cases r1 with
        | tup s q => exact ⟨_, d, rfl, dp, h1, h2, h3, h4, k _ _ _ _ _ po Fr.refl R (.str _)⟩) hs) (by decide) (by decide) hs (fun _ _ => rfl)
/-! ### isinstance -/
theorem tys_paired {K : Frag} {H : Hp} : ∀ {ns : List String} {vs : List V}, DvAll K H vs (ns.map Da.ty) → PySem.Paired ClsV vs (ns.map Value.type)
  | [], _, r => by cases r; exact .nil
  | n :: ns, _, r => by
    cases r with
    | cons r1 r2 => cases r1; exact .cons (.ty n) (tys_paired r2)
/-- a built-in type by its name -/
theorem ev_ty {x : Str} {n : String} (hx : Bs S x (.type n)) (h : Post (.ty n) Θ) (hn : x ≠ "__name__" := by decide) (hd : (x == ("__debug__" : Str)) = false := by decide) : ev S (.Name x pos) Γ Θ Post :=
  ev_c (v := .ty n) (fun X o => ⟨fun pins s σ H Q I q => ld_blt I (o.gl hx.1) (by rw [o.mg]; exact hx.2.1) hx.2.2 ⟨.ty n, H, I, rfl, q⟩ hn hd⟩) (fun _ => .ty n) h
theorem ev_isi (hx : Bs S "isinstance" (.builtin "isinstance")) (h : ev S a Γ Θ fun x Θ1 => ev S b Γ Θ1 fun y Θ2 => ∃ T n k, tyD Θ2 x = some T ∧ y = .ty n ∧ PySem.W.kitOne S.K (.type T) (.type n) = some k ∧ Post (.bl k) Θ2) (hs : NoStar a := by intro _ _; rfl) (hs2 : NoStar b := by intro _ _; rfl)
    (hpl : NoStars [b] := by intro _ _; rfl) : ev S (.Call (.Name "isinstance" p) [a, b] [] pos) Γ Θ Post :=
  ev_callB (r := rIsi S.K) hx (fun X o => o.K ▸ call_isi) (ea_cons (h.imp fun d Θ1 h2 => ea_cons (h2.imp fun d2 Θ2 ⟨T, n, kk, e1, e2, e3, po⟩ => ea_nil fun σ H H1 R vs rs Q k => by
    subst e2
    cases rs with
    | cons r1 r2 =>
      cases r2 with
      | cons r2 r3 =>
        cases r3
        cases r2
        exact ⟨_, _, _, _, kk, rfl, .ty n, tyD_of R r1 e1, e3, k _ _ _ _ _ po Fr.refl R (.bl _)⟩) hs2) hs) (by decide) (by decide) hs hpl
theorem ev_isiT (hx : Bs S "isinstance" (.builtin "isinstance")) (h : ev S a Γ Θ fun x Θ1 => ev S b Γ Θ1 fun y Θ2 => ∃ T ns k, tyD Θ2 x = some T ∧ y = .tup (List.map Da.ty ns) ∧ PySem.W.kitAny S.K (.type T) (ns.map Value.type) = some k ∧ Post (.bl k) Θ2) (hs : NoStar a := by intro _ _; rfl) (hs2 : NoStar b := by intro _ _; rfl)
    (hpl : NoStars [b] := by intro _ _; rfl) : ev S (.Call (.Name "isinstance" p) [a, b] [] pos) Γ Θ Post :=
  ev_callB (r := rIsiT S.K) hx (fun X o => o.K ▸ call_isiT) (ea_cons (h.imp fun d Θ1 h2 => ea_cons (h2.imp fun d2 Θ2 ⟨T, n, kk, e1, e2, e3, po⟩ => ea_nil fun σ H H1 R vs rs Q k => by
    subst e2
    cases rs with
    | cons r1 r2 =>
      cases r2 with
      | cons r2 r3 =>
        cases r3
        cases r2 with
        | tup s q =>
          refine ⟨_, _, _, _, _, kk, rfl, R.ex _ _ s, ?_, tyD_of R r1 e1, e3, k _ _ _ _ _ po Fr.refl R (.bl _)⟩
          exact tys_paired q) hs2) hs) (by decide) (by decide) hs hpl
/-! ### + and * of sequences -/
theorem lst_at {σ : L2.St} {H H1 : Hp} {x : Da} {ds : List Da} {v : V} (R : Rep S.K σ H H1 Γ Θ) (h : x = .lst ds ∨ ∃ p, x = .obj p ∧ Θ p = some (.lst ds)) (r : Dv S.K H v x) : ∃ p vs, v = .ref p ∧ H1 p = some (.lst vs) ∧ DvAll S.K H vs ds := by
  rcases h with rfl | ⟨p, rfl, hp⟩
  · cases r with
    | lst s q => exact ⟨_, _, rfl, R.ex _ _ s, q⟩
  · cases r
    obtain ⟨_, vs, e, q⟩ := R.sto p _ hp
    exact ⟨_, vs, rfl, e, q⟩
/-- two lists: a new one, that changes no more -/
theorem ev_cat (h : ev S a Γ Θ fun x Θ1 => ev S b Γ Θ1 fun y Θ2 => ∃ ds es', (x = .lst ds ∨ ∃ p, x = .obj p ∧ Θ2 p = some (.lst ds)) ∧ (y = .lst es' ∨ ∃ p, y = .obj p ∧ Θ2 p = some (.lst es')) ∧ ds.length + es'.length ≤ sizeLine ∧ Post (.lst (ds ++ es')) Θ2) : ev S (.BinOp a .Add b pos) Γ Θ Post :=
  ev_mk (t := tOp rCat (wE S a) (wE S b)) (fun X o => pe_op op_cat (w_e o a) (w_e o b)) fun σ H H1 R Q k => seq2 h R fun v1 v2 d1 d2 H' H3 Θ2 ⟨ds, es', e1, e2, hz, p⟩ f R' r1 r2 => by
    obtain ⟨q1, vs1, rfl, s1, x1⟩ := lst_at R' e1 r1
    obtain ⟨q2, vs2, rfl, s2, x2⟩ := lst_at R' e2 r2
    exact ⟨q1, q2, vs1, vs2, rfl, rfl, s1, s2, by rw [x1.length, x2.length]; exact hz, fun pn hp => k _ _ _ _ _ p (f.trans R' (Fr.new hp (R'.no hp).1)) (R'.new hp) (.lst upd_same ((x1.append x2).mono (same_upd (R'.no hp).1)))⟩
theorem ev_rep (h : ev S a Γ Θ fun x Θ1 => ev S b Γ Θ1 fun y Θ2 => ∃ ds k, (x = .lst ds ∨ ∃ p, x = .obj p ∧ Θ2 p = some (.lst ds)) ∧ y = .int k ∧ -(2 ^ 63) ≤ k ∧ k < 2 ^ 63 ∧ ds.length * k.toNat ≤ sizeLine ∧ Post (.lst (List.replicate k.toNat ds).flatten) Θ2) : ev S (.BinOp a .Mult b pos) Γ Θ Post :=
  ev_mk (t := tOp rRep (wE S a) (wE S b)) (fun X o => pe_op op_rep (w_e o a) (w_e o b)) fun σ H H1 R Q k => seq2 h R fun v1 v2 d1 d2 H' H3 Θ2 ⟨ds, n, e1, e2, h1, h2, hz, p⟩ f R' r1 r2 => by
    subst e2
    cases r2
    obtain ⟨q1, vs1, rfl, s1, x1⟩ := lst_at R' e1 r1
    exact ⟨q1, n, vs1, rfl, rfl, s1, h1, h2, by rw [x1.length]; exact hz, fun pn hp => k _ _ _ _ _ p (f.trans R' (Fr.new hp (R'.no hp).1)) (R'.new hp) (.lst upd_same ((x1.rep _).mono (same_upd (R'.no hp).1)))⟩
/-- two tuples -/
theorem ev_catT (h : ev S a Γ Θ fun x Θ1 => ev S b Γ Θ1 fun y Θ2 => ∃ ds es', x = .tup ds ∧ y = .tup es' ∧ ds.length + es'.length ≤ sizeLine ∧ Post (.tup (ds ++ es')) Θ2) : ev S (.BinOp a .Add b pos) Γ Θ Post :=
  ev_mk (t := tOp (rCatA S.K) (wE S a) (wE S b)) (fun X o => o.K ▸ pe_op op_catA (w_e o a) (w_e o b)) fun σ H H1 R Q k => seq2 h R fun v1 v2 d1 d2 H' H3 Θ2 ⟨ds, es', e1, e2, hz, p⟩ f R' r1 r2 => by
    subst e1 e2
    cases r1 with
    | @tup q1 vs1 _ s1 x1 =>
      cases r2 with
      | @tup q2 vs2 _ s2 x2 =>
        refine ⟨q1, q2, vs1, vs2, rfl, rfl, .inl (.inl (R'.ex _ _ s1)), .inl (.inl (R'.ex _ _ s2)), by rw [x1.length, x2.length]; exact hz, fun e => ?_, fun _ e => ?_, fun _ _ pn hp => ?_⟩
        · subst e
          cases x1
          exact k _ _ _ _ _ p f R' (.tup s2 x2)
        · subst e
          cases x2
          rw [List.append_nil] at p
          exact k _ _ _ _ _ p f R' (.tup s1 x1)
        · exact k _ _ _ _ _ p (f.trans R' (Fr.new hp (R'.no hp).1)) (R'.new hp) (.tup upd_same ((x1.append x2).mono (same_upd (R'.no hp).1)))
/-! ### in a tuple of data -/
def rInTD (K : Frag) : R2 := fun x y H Q => ∃ d ds, Dp K H x d ∧ Dp K H y (.tuple ds) ∧ SeqAt.shaped d = true ∧ SeqAt.shaped (.tuple ds) = true ∧ Q (.bl (ds.any fun z => PyData.eqv z d)) H
def rNotInTD (K : Frag) : R2 := fun x y H Q => ∃ d ds, Dp K H x d ∧ Dp K H y (.tuple ds) ∧ SeqAt.shaped d = true ∧ SeqAt.shaped (.tuple ds) = true ∧ Q (.bl (!ds.any fun z => PyData.eqv z d)) H
theorem op_inTD {X : Cx} (hu : X.A.units + 65 < cLine) : OpR X (compareOp .In) (rInTD X.K) := by
  intro pins s σ H x y v u Q I rx ry h
  obtain ⟨d, ds, hd, he, sd, se, q⟩ := h
  obtain ⟨as1, r1⟩ := Dp.reads I d x v hd rx
  obtain ⟨as2, r2⟩ := Dp.reads I (.tuple ds) y u he ry
  exact SeqAt.in_tuple_reads r2 r1 (SeqAt.canLay_of_shaped se) (SeqAt.canLay_of_shaped sd) (room_in_shaped sd hu) ⟨.bl _, H, I, rfl, q⟩
theorem op_notInTD {X : Cx} (hu : X.A.units + 65 < cLine) : OpR X (compareOp .NotIn) (rNotInTD X.K) := by
  intro pins s σ H x y v u Q I rx ry h
  obtain ⟨d, ds, hd, he, sd, se, q⟩ := h
  obtain ⟨as1, r1⟩ := Dp.reads I d x v hd rx
  obtain ⟨as2, r2⟩ := Dp.reads I (.tuple ds) y u he ry
  exact SeqAt.notIn_tuple_reads r2 r1 (SeqAt.canLay_of_shaped se) (SeqAt.canLay_of_shaped sd) (room_in_shaped sd hu) ⟨.bl _, H, I, rfl, q⟩
theorem ec_inTD (hm : behindInMarks .In b = false) (h : ev S a Γ Θ fun x Θ1 => ev S b Γ Θ1 fun y Θ2 => ∃ p qs, toP x = some p ∧ toP y = some (.tuple qs) ∧ SeqAt.shaped p = true ∧ SeqAt.shaped (.tuple qs) = true ∧ Post (.bl (qs.any fun z => PyData.eqv z p)) Θ2) : ec S .In a b Γ Θ Post :=
  ec_cmp (r := rInTD S.K) (fun X o => o.K ▸ op_inTD (units65 o)) hm (h.imp fun x Θ1 h1 => h1.imp fun y Θ2 ⟨p, q, e1, e2, s1, s2, po⟩ => ⟨_, po, fun H H1 vx vy Q sm r1 r2 k =>
    ⟨p, q, dp_same sm (dp_of r1 e1), dp_same sm (dp_of r2 e2), s1, s2, k _ (.bl _)⟩⟩)
theorem ec_notInTD (hm : behindInMarks .NotIn b = false) (h : ev S a Γ Θ fun x Θ1 => ev S b Γ Θ1 fun y Θ2 => ∃ p qs, toP x = some p ∧ toP y = some (.tuple qs) ∧ SeqAt.shaped p = true ∧ SeqAt.shaped (.tuple qs) = true ∧ Post (.bl (!qs.any fun z => PyData.eqv z p)) Θ2) : ec S .NotIn a b Γ Θ Post :=
  ec_cmp (r := rNotInTD S.K) (fun X o => o.K ▸ op_notInTD (units65 o)) hm (h.imp fun x Θ1 h1 => h1.imp fun y Θ2 ⟨p, q, e1, e2, s1, s2, po⟩ => ⟨_, po, fun H H1 vx vy Q sm r1 r2 k =>
    ⟨p, q, dp_same sm (dp_of r1 e1), dp_same sm (dp_of r2 e2), s1, s2, k _ (.bl _)⟩⟩)
/-! ### list(range(n)) -/
theorem rng_all {K : Frag} {H : Hp} : ∀ l : List Nat, DvAll K H (l.map fun (i : Nat) => V.int (0 + (i : Int))) (l.map fun (i : Nat) => Da.int (0 + (i : Int)))
  | [] => .nil
  | i :: l => .cons (.int _) (rng_all l)
theorem ev_listRg {px : Pos} (hl : Bs S "list" (.type "list")) (hr : Bs S "range" (.type "range")) (h : ev S e Γ Θ fun x Θ1 => ∃ n : Int, x = .int n ∧ -(2 ^ 62) ≤ n ∧ n < 2 ^ 62 ∧ n.toNat ≤ 2 ^ 24 ∧ Post (.lst (rngD 0 n.toNat)) Θ1) (hs : NoStar e := by intro _ _; rfl)
    (hs2 : NoStar (.Call (.Name "range" px) [e] [] pos) := by intro _ _; rfl) {pos' : Pos} : ev S (.Call (.Name "list" p) [.Call (.Name "range" px) [e] [] pos] [] pos') Γ Θ Post :=
  ev_mk (t := tLstRg (tRg1 (wE S e))) (fun X o => pe_listRg o.calm (o.gl hl.1) (by rw [o.mg]; exact hl.2.1) (prg_1 (o.gl hr.1) (by rw [o.mg]; exact hr.2.1) (w_e o e) (hs _ _)) (hs2 _ _)) fun σ H H1 R Q k => h σ H H1 R _ fun v d H' H2 Θ1 ⟨n, ed, h1, h2, h3, po⟩ f R' r => by
    subst ed
    cases r
    refine ⟨n, rfl, ⟨by decide, by decide, h1, h2, by rw [Int.sub_zero]; exact h3⟩, fun q hq => ?_⟩
    refine k _ _ _ _ _ po (f.trans R' (Fr.new hq (R'.no hq).1)) (R'.new hq) (.lst upd_same ?_)
    unfold rgV rngD
    rw [Int.sub_zero]
    exact rng_all _
/-! ### dicts with tuples for keys -/
def kD : Key → Da
  | .inl i => .int i
  | .inr x => .str x
theorem kD_of {K : Frag} {H : Hp} : ∀ {k : List Key} {vs : List V}, DvAll K H vs (k.map kD) → vs = k.map kV
  | [], _, r => by cases r; rfl
  | .inl i :: k, _, r => by
    cases r with
    | cons r1 r2 => cases r1; rw [kD_of r2]; rfl
  | .inr i :: k, _, r => by
    cases r with
    | cons r1 r2 => cases r1; rw [kD_of r2]; rfl
theorem ev_dict0 (h : ∀ q, Θ q = none → Post (.obj q) (updS Θ q (.dT []))) : ev S (.Dict [] [] pos) Γ Θ Post :=
  ev_mk (t := tDNewT) (fun X o => pe_dnewT) fun σ H H1 R Q k => fun q hq => k _ _ _ _ _ (h q (R.no hq).2) (Fr.newM hq) (R.newM hq ⟨[], upd_same, rfl, .nil⟩) (.obj q)
def valD (kvs : List (List Key × Da)) (k : List Key) : Option Da := (kvs.find? fun kv => decide (kv.1 = k)).map (·.2)
def putD (kvs : List (List Key × Da)) (k : List Key) (d : Da) : List (List Key × Da) := if (kvs.any fun kv => decide (kv.1 = k)) = true then kvs.map (fun kv => if kv.1 = k then (kv.1, d) else kv) else kvs ++ [(k, d)]
theorem PAll.val {K : Frag} {H : Hp} {k : List Key} {d : Da} : ∀ {gs : List (List Key × V)} {fs : List (List Key × Da)}, PAll K H gs fs → valD fs k = some d → ∃ v, valV gs k = some v ∧ Dv K H v d
  | [], [], _, e => by cases e
  | [], (f, d) :: fs, h, _ => by have := h.1; simp at this
  | (g, v) :: gs, [], h, _ => by have := h.1; simp at this
  | (g, v) :: gs, (f, d') :: fs, h, e => by
    obtain ⟨h1, h2⟩ := h
    simp only [List.map_cons, List.cons.injEq] at h1
    obtain ⟨e1, h1⟩ := h1
    subst e1
    rw [List.map_cons, List.map_cons] at h2
    cases h2 with
    | cons r rs =>
      have ih := PAll.val (k := k) (d := d) (gs := gs) (fs := fs) ⟨h1, rs⟩
      unfold valD at e ih
      unfold valV at ih ⊢
      by_cases q : g = k
      · rw [List.find?_cons_of_pos (by simpa using q)] at e ⊢
        cases e
        exact ⟨v, rfl, r⟩
      · rw [List.find?_cons_of_neg (by simpa using q)] at e ⊢
        exact ih e
theorem PAll.put {K : Frag} {H : Hp} {k : List Key} {d : Da} {v : V} {gs : List (List Key × V)} {fs : List (List Key × Da)} (h : PAll K H gs fs) (r : Dv K H v d) : PAll K H (putK gs k v) (putD fs k d) := by
  have an : ∀ {gs : List (List Key × V)} {fs : List (List Key × Da)}, gs.map (·.1) = fs.map (·.1) → (gs.any fun kv => decide (kv.1 = k)) = (fs.any fun kv => decide (kv.1 = k)) := fun {gs fs} h => by
    have := congrArg (fun l => l.any fun x => decide (x = k)) h
    simpa [List.any_map, Function.comp_def] using this
  unfold putK putD
  rw [an h.1]
  split
  · refine ⟨?_, ?_⟩
    · rw [List.map_map, List.map_map]
      have e1 : ((fun kv : List Key × V => kv.1) ∘ fun kv : List Key × V => if kv.1 = k then (kv.1, v) else kv) = (·.1) := by funext kv; simp only [Function.comp]; split <;> rfl
      have e2 : ((fun kv : List Key × Da => kv.1) ∘ fun kv : List Key × Da => if kv.1 = k then (kv.1, d) else kv) = (·.1) := by funext kv; simp only [Function.comp]; split <;> rfl
      rw [e1, e2]
      exact h.1
    · have go : ∀ {gs : List (List Key × V)} {fs : List (List Key × Da)}, gs.map (·.1) = fs.map (·.1) → DvAll K H (gs.map (·.2)) (fs.map (·.2)) → DvAll K H ((gs.map fun kv => if kv.1 = k then (kv.1, v) else kv).map (·.2)) ((fs.map fun kv => if kv.1 = k then (kv.1, d) else kv).map (·.2)) := by
        intro gs
        induction gs with
        | nil =>
          intro fs h1 h2
          cases fs with
          | nil => exact .nil
          | cons f fs => simp at h1
        | cons g gs ih =>
          intro fs h1 h2
          cases fs with
          | nil => simp at h1
          | cons f fs =>
            simp only [List.map_cons, List.cons.injEq] at h1
            rw [List.map_cons, List.map_cons] at h2
            cases h2 with
            | cons r1 r2 =>
              rw [List.map_cons, List.map_cons, List.map_cons, List.map_cons]
              refine .cons ?_ (ih h1.2 r2)
              rw [h1.1]
              split
              · exact r
              · exact r1
      exact go h.1 h.2
  · refine ⟨?_, ?_⟩
    · rw [List.map_append, List.map_append, h.1]; rfl
    · rw [List.map_append, List.map_append]
      exact h.2.append (.one r)
/-- d[k] -/
theorem ev_dget (hns : ∀ X : Cx, Ok S X → NoSl b) (h : ev S a Γ Θ fun x Θ1 => ev S b Γ Θ1 fun y Θ2 => ∃ q kvs k d, x = .obj q ∧ Θ2 q = some (.dT kvs) ∧ y = .tup (k.map kD) ∧ valD kvs k = some d ∧ Post d Θ2) : ev S (.Subscript a b pos) Γ Θ Post :=
  ev_mk (t := tDGet (wE S a) (wE S b)) (fun X o => pe_dget (by have := o.room.un; omega) (w_e o a) (w_e o b) (hns X o)) fun σ H H1 R Q k => seq2 h R fun v1 v2 d1 d2 H' H3 Θ2 ⟨q, kvs, key, d, e1, hq, e2, ev, p⟩ f R' r1 r2 => by
    subst e1 e2
    cases r1
    obtain ⟨_, vs, e, pa⟩ := R'.sto q _ hq
    obtain ⟨v, hv, rv⟩ := pa.val ev
    cases r2 with
    | tup s x2 =>
      rw [kD_of x2] at s
      exact ⟨q, v, rfl, hv ▸ DGet.t e (R'.ex _ _ s), k _ _ _ _ _ p f R' rv⟩
/-- d[k] = v -/
theorem ex1_dput {D : DE} {o i value : Expr} {pos' : Pos} (h : ev S value Γ Θ fun d Θ1 => ev S o Γ Θ1 fun x Θ2 => ev S i Γ Θ2 fun y Θ3 => ∃ q kvs k, x = .obj q ∧ Θ3 q = some (.dT kvs) ∧ y = .tup (k.map kD) ∧ kvs.length < sizeLine ∧ D.nx Γ (updS Θ3 q (.dT (putD kvs k d))))
    (hs : ∀ env : Env, swapsWith value (some (.Subscript o i pos')) pos.line env = pure false := by intro _; rfl) : ex1 S (.Assign [.Subscript o i pos'] value pos) Γ Θ D :=
  ex1_mk (t := sDPut (wE S o) (wE S i) (wE S value)) (fun X ok => ps_dput (by have := ok.room.un; omega) (w_e ok o) (w_e ok i) (w_e ok value) (hs _)) fun σ H H1 R E k => h σ H H1 R _ fun v d H' H2 Θ1 h2 f R1 r1 => h2 σ H' H2 R1 _ fun v2 d2 H'' H3 Θ2 h3 f2 R2 r2 => h3 σ H'' H3 R2 _ fun v3 d3 H4 H5 Θ3 ⟨q, kvs, key, e1, hq, e2, hl, p⟩ f3 R3 r3 => by
    subst e1 e2
    cases r2
    obtain ⟨_, vs, e, pa⟩ := R3.sto q _ hq
    have hl' : vs.length < sizeLine := by
      have := congrArg List.length pa.1
      rw [List.length_map, List.length_map] at this
      omega
    cases r3 with
    | tup s x2 =>
      rw [kD_of x2] at s
      refine ⟨q, _, rfl, DPut.t e (R3.ex _ _ s) hl', k.nx _ _ _ _ _ p (((f.trans R1 f2).trans R2 f3).trans R3 (Fr.chg hq)) (R3.chg hq ⟨_, upd_same, ?_⟩)⟩
      exact pa.put ((r1.mono f2.ke).mono f3.ke)
end
end Z
/-! ZWalk: the values of a dict with tuples for keys, under a lock. -/
namespace Z
open PySem PySem.Spec PyProof.Rows L2
/-- the values, as they stand -/
def Itdt (d : Addr) (o : Obj) (kvs : List (List Key × V)) : It :=
  ⟨fun i H => H d = some (.frz o (.dT kvs)) ∧ i < kvs.length, fun i H x H' => H' = H ∧ ∃ k, kvs[i]? = some (k, x), fun i H => H d = some (.frz o (.dT kvs)) ∧ kvs.length ≤ i⟩
theorem frzT_val {X : Cx} {pins : List (Addr × Obj)} {σ : L2.St} {H : Hp} {s : Shared} {d : Addr} {o : Obj} {kvs : List (List Key × V)} (I : Inv X pins σ H s) (h : H d = some (.frz o (.dT kvs))) :
    (d == sysModules) = false ∧ s.heap.get? d = some o ∧ o.ExactDict ∧ ∃ (es : Array DictEntry) (ep : Nat), o.data = .dict es ep ∧ es.size = kvs.length ∧
      ∀ (i : Nat) (k : List Key) (v : V), kvs[i]? = some (k, v) → ∃ (en : DictEntry), es[i]? = some en ∧ RelV v en.val := by
  obtain ⟨hd, z, hs, xs, pr, o', es, ep, ho, hx, hdt, he, _⟩ := I.hok d _ h
  rw [hd] at ho
  cases ho
  have l2 : kvs.length = xs.length := Paired.length pr
  have l1 : es.toList.length = xs.length := by rw [he, List.length_map]
  rw [Array.length_toList] at l1
  refine ⟨hs, hd, hx, es, ep, hdt, by omega, fun i k v e => ?_⟩
  have hi : i < kvs.length := (List.getElem?_eq_some_iff.mp e).1
  obtain ⟨b, hb, e1, e2, e3⟩ := paired_get pr e
  have q : es.toList[i]? = some (entryOfKey (tupleKind (mixKind X.prog X.w)) b) := by rw [he, List.getElem?_map, hb]; rfl
  refine ⟨_, by rw [← Array.getElem?_toList]; exact q, ?_⟩
  exact e3
section
variable {P : Program} {w : World} {K : PySem.W.Frag} {tg : Expr} {d : Addr} {o : Obj} {es : Array DictEntry} {ep : Nat}
theorem turn_valsT {kvs : List (List Key × V)} (it : Addr) (hod : o.data = .dict es ep) : Turn P w K tg (Itdt d o kvs) [it] it (fun i h => h.IsValIter it d i kvs.length ep) where
  mem := by simp
  obj := fun i h st b hb => by
    have e : b = it := by simpa using hb
    subst e
    obtain ⟨oi, e, c, dd⟩ := st
    exact ⟨oi, e, fun v z => by rw [dd] at z; cases z⟩
  keep := fun i h h' st k => st.at fun oi e => k it (by simp) oi e
  item := by
    intro X hP hw hK hc i pins s σ H E I hf st hg
    subst hP hw hK
    obtain ⟨hd, hi⟩ := hg
    obtain ⟨f0, f1, f2, f3, f4, f5⟩ := hf it (by simp)
    obtain ⟨hs, hgd, hx, es', ep', hdt, hsz, ent⟩ := frzT_val I hd
    obtain ⟨rfl, rfl⟩ := dict_ep hod hdt
    obtain ⟨⟨k, v⟩, hkv⟩ : ∃ p, kvs[i]? = some p := ⟨kvs[i], List.getElem?_eq_getElem hi⟩
    obtain ⟨en, hen, ru⟩ := ent i k v hkv
    obtain ⟨hlt, een⟩ := Array.getElem?_eq_some_iff.mp hen
    rw [← hsz] at st
    refine wpAny_pyNext_values_item_raw st ⟨o, hgd, hx, hdt⟩ hlt fun h' st' sb => ?_
    have I1 : Inv X pins σ H { s with heap := h' } := I.turned (t' := s.toks) (fun b ob hb e => (sb.2 b hb).trans e) f0 f1 f3 f4 f5
    obtain ⟨oi, e, c, dd⟩ := id st'
    refine ⟨_, rfl, go_of (s := { s with heap := h' }) e c dd (by decide) ⟨v, H, I1, by rw [een]; exact ru, ⟨rfl, k, hkv⟩, ?_, fun b hb => (hf b hb).1⟩⟩
    show h'.IsValIter it d (i + 1) kvs.length _
    rw [← hsz]
    exact st'
  done := by
    intro X hP hw hK hc i pins s σ H E I hf st hg
    subst hP hw hK
    obtain ⟨hd, hi⟩ := hg
    obtain ⟨f0, f1, f2, f3, f4, f5⟩ := hf it (by simp)
    obtain ⟨hs, hgd, hx, es', ep', hdt, hsz, ent⟩ := frzT_val I hd
    obtain ⟨rfl, rfl⟩ := dict_ep hod hdt
    rw [← hsz] at st
    exact wpAny_pyNext_values_end_raw (I.ok.hd hc) st ⟨o, hgd, hx, hdt⟩ (by omega) fun h' eb => ⟨rfl, I.turned (t' := s.toks) (fun b ob hb e => eb b ob hb e) f0 f1 f3 f4 f5⟩
  self := fun A i s Q E st h => wpAny_pyIter_valiter st h
end
/-! ### zip of a list and a tuple -/
def ItzLT (K : Frag) (a b : Addr) : It :=
  ⟨fun i H => ∃ (xs ys : List V) (x y : V), SqL K H a xs ∧ SqT K H b ys ∧ xs[i]? = some x ∧ ys[i]? = some y,
    fun i H v H' => ∃ T x y, v = .ref T ∧ H T = none ∧ H' = upd H T (.tup [x, y]) ∧ (∀ xs, SqL K H a xs → xs[i]? = some x) ∧ ∀ ys, SqT K H b ys → ys[i]? = some y,
    fun i H => ∃ xs ys : List V, SqL K H a xs ∧ SqT K H b ys ∧ i ≤ xs.length ∧ i ≤ ys.length ∧ (xs.length = i ∨ ys.length = i)⟩
theorem zsep {z TI TO i1 i2 a b : Addr} (D : ZipApart z TI TO i1 i2 a b) : ZipSep2 z TI TO i1 i2 [i1, a] [i2, b] where
  TIz := D.TIz
  TOz := D.TOz
  TITO := D.TITO
  TIi1 := D.TIi1
  mem1 := by simp
  zf1 := by simp [Ne.symm D.i1z, Ne.symm D.l1z]
  Tf1 := by simp [D.TOi1, Ne.symm D.l1TO]
  TIi2 := D.TIi2
  mem2 := by simp
  zf2 := by simp [Ne.symm D.i2z, Ne.symm D.l2z]
  Tf2 := by simp [D.TOi2, Ne.symm D.l2TO]
  sep1_2 := by simp [D.i12, Ne.symm D.l2i1]
  sep2_1 := by simp [Ne.symm D.i12, Ne.symm D.l1i2]
theorem turn_zipLT {P : Program} {w : World} {K : Frag} {elts : List Expr} {kk : Nat} {tpos : Pos} {a b z TI TO i1 i2 : Addr} (D : ZipApart z TI TO i1 i2 a b) :
    Turn P w K (.Tuple elts kk tpos) (ItzLT K a b) [z, TI, TO, i1, i2] z (fun i h => IsZip h z TI TO .none ∧ PySem.IsPair h TI (.ref i1) (.ref i2) ∧ (∃ x y, PySem.IsPair h TO x y) ∧ h.IsListIter i1 a i ∧ h.IsTupleIter i2 b i) where
  mem := by simp
  obj := fun i h st c hc => by
    obtain ⟨hz, hTI, ⟨x, y, hTO⟩, ⟨o1, e1, _, d1⟩, ⟨o2, e2, _, d2⟩⟩ := st
    have e' : c = z ∨ c = TI ∨ c = TO ∨ c = i1 ∨ c = i2 := by simpa using hc
    rcases e' with q | q | q | q | q <;> subst q
    · exact ⟨_, hz, fun v q => nomatch q⟩
    · exact ⟨_, hTI, fun v q => nomatch q⟩
    · exact ⟨_, hTO, fun v q => nomatch q⟩
    · exact ⟨o1, e1, fun v q => by rw [d1] at q; cases q⟩
    · exact ⟨o2, e2, fun v q => by rw [d2] at q; cases q⟩
  keep := fun i h h' st k => by
    obtain ⟨hz, hTI, ⟨x, y, hTO⟩, h1, h2⟩ := st
    exact ⟨k z (by simp) _ hz, k TI (by simp) _ hTI, ⟨x, y, k TO (by simp) _ hTO⟩, h1.at fun o q => k i1 (by simp) o q, h2.at fun o q => k i2 (by simp) o q⟩
  item := by
    intro X hP hw hK hc i pins s σ H E I hf st hg
    subst hP hw hK
    obtain ⟨hz, hTI, ⟨x0, y0, hTO⟩, h1, h2⟩ := st
    obtain ⟨xs, ys, x, y, hqx, hqy, hx, hy⟩ := hg
    obtain ⟨its, rv, p, _⟩ := I.list hqx
    obtain ⟨its2, rv2, p2, _⟩ := I.tuple hqy
    obtain ⟨u, hu, ru⟩ := rv.get hx
    obtain ⟨u2, hu2, ru2⟩ := rv2.get hy
    have l1 : i < its.toArray.size := by simpa using (List.getElem?_eq_some_iff.mp hu).1
    have l2 : i < its2.toArray.size := by simpa using (List.getElem?_eq_some_iff.mp hu2).1
    have hzl : z < s.heap.objs.size := Heap.lt_size hz
    refine wpAny_pyNext_zipD2_item (zsep D) (Draws.list (A := X.A.in1) (I.ok.hd hc) i1 a D.l1i1 its.toArray) (Draws.tuple (A := X.A.in1) (I.ok.hd hc) i2 b D.l2i2 its2.toArray) hz hTI hTO ⟨h1, p.isList⟩ ⟨h2, p2⟩ l1 l2 fun x1 x2 h' tk q1 q2 z' TO' h1' h2' hT hsz hk => ?_
    rw [show its.toArray[i]? = some u by simpa using hu] at q1
    rw [show its2.toArray[i]? = some u2 by simpa using hu2] at q2
    cases q1
    cases q2
    refine ⟨_, rfl, wpAny_letOwnedTupleGo_zip (s := { s with heap := h', toks := tk }) z' fun h'' z'' sb => ?_⟩
    have hT2 : h''.get? s.heap.objs.size = some { cls := .type "tuple", data := .seq #[u, u2] } := (sb.2 _ (Nat.ne_of_gt hzl)).trans hT
    have new : ObjOk X.prog X.w (upd H s.heap.objs.size (.tup [x, y])) h'' s.heap.objs.size (.tup [x, y]) :=
      ⟨by show 2 ≤ sizeLine; decide, [u, u2], .cons ru (.cons ru2 .nil), ⟨_, hT2, rfl, _, rfl⟩⟩
    have I1 : Inv X pins σ (upd H s.heap.objs.size (.tup [x, y])) { s with heap := h'', toks := tk } :=
      I.turnedNew (t' := tk) (ch := [z, TI, TO, i1, i2]) (fun c o hb q => (sb.2 c (fun q' => hb (by simp [q']))).trans (hk c o (fun q' => hb (by simp [q'])) (fun q' => hb (by simp [q'])) (fun q' => hb (by simp [q'])) (fun q' => hb (by simp [q'])) q)) hf (Nat.le_refl _) new
    refine ⟨.ref s.heap.objs.size, _, I1, rfl, ⟨_, x, y, rfl, I.hok.fresh (Nat.le_refl _), rfl, fun l hl => by rw [I.list_inj hl hqx]; exact hx, fun l hl => by rw [I.tuple_inj hl hqy]; exact hy⟩, ⟨z'', ?_, ⟨u, u2, ?_⟩, ?_, ?_⟩, fun c hcm => ?_⟩
    · exact (sb.2 _ D.TIz).trans (hk _ _ D.TIz D.TITO D.TIi1 D.TIi2 hTI)
    · exact (sb.2 _ D.TOz).trans TO'
    · exact h1'.1.at fun o q => (sb.2 _ D.i1z).trans q
    · exact h2'.1.at fun o q => (sb.2 _ D.i2z).trans q
    · have hlt : c < s.heap.objs.size := by
        have e' : c = z ∨ c = TI ∨ c = TO ∨ c = i1 ∨ c = i2 := by simpa using hcm
        rcases e' with q | q | q | q | q <;> subst q
        · exact hzl
        · exact Heap.lt_size hTI
        · exact Heap.lt_size hTO
        · obtain ⟨_, e1, _⟩ := h1; exact Heap.lt_size e1
        · obtain ⟨_, e2, _⟩ := h2; exact Heap.lt_size e2
      rw [upd_ne (Nat.ne_of_lt hlt)]
      exact (hf c hcm).1
  done := by
    intro X hP hw hK hc i pins s σ H E I hf st hg
    subst hP hw hK
    obtain ⟨hz, hTI, ⟨x0, y0, hTO⟩, h1, h2⟩ := st
    obtain ⟨xs, ys, hqx, hqy, hle1, hle2, hend⟩ := hg
    obtain ⟨its, rv, p, _⟩ := I.list hqx
    obtain ⟨its2, rv2, p2, _⟩ := I.tuple hqy
    have l1 := rv.length
    have l2 := rv2.length
    refine wpAny_pyNext_zipD2_end (zsep D) (Draws.list (A := X.A.in1) (I.ok.hd hc) i1 a D.l1i1 its.toArray) (Draws.tuple (A := X.A.in1) (I.ok.hd hc) i2 b D.l2i2 its2.toArray) hz hTI hTO ⟨h1, p.isList⟩ ⟨h2, p2⟩ (by simp; omega) (by simp; omega) (by simp; omega) fun h' tk hk => ⟨rfl, I.turnedL (t' := tk) (ch := [z, TI, TO, i1, i2]) (fun c o hb q =>
      hk c o (fun q' => hb (by simp [q'])) (fun q' => hb (by simp [q'])) (fun q' => hb (by simp [q'])) (fun q' => hb (by simp [q'])) q) hf⟩
  self := fun A i s Q E st h => wpAny_pyIter_zip st.1 h
def iZipLT (K : Frag) (ta : TA) : TI := fun σ H R => ta σ H fun vs H1 => ∃ a b xs ys, vs = [.ref a, .ref b] ∧ SqL K H1 a xs ∧ SqT K H1 b ys ∧ R (ItzLT K a b) H1
theorem pi_zipLT {X : Cx} {e e2 : Expr} {ta : TA} {p pos tpos : Pos} {elts : List Expr} {kk : Nat} (hg : Gl X "zip") (hm : X.mg "zip" = none) (ha : PA X [e, e2] ta)
    (hs : starEach [e, e2] X.env = (false, eval e X.env) :: starEach [e2] X.env := by rfl) (hpl : (backTo pos (starEach [e2] X.env)).any (·.1) = false := by rfl) : PI X (.Tuple elts kk tpos) (.Call (.Name "zip" p) [e, e2] [] pos) (iZipLT X.K ta) := by
  refine ⟨fun pins s σ H R I h => ?_⟩
  refine Call_ (ld_blt I hg hm PyProof.Rows.boot_zip (PyProof.Rows.callWith_type1 (thn (ha.run pos pins s σ H _ I h) fun us s1 ⟨vs, H1, I1, r1, q1⟩ => ?_) hs hpl))
  obtain ⟨a, b, xs, ys, ex, hqx, hqy, q⟩ := q1
  subst ex
  cases r1 with
  | cons r rr =>
    cases rr with
    | cons r' rr =>
      cases rr
      cases r
      cases r'
      have fresh5 : ∀ c, c ∈ [s1.heap.objs.size + 4, s1.heap.objs.size + 2, s1.heap.objs.size + 3, s1.heap.objs.size, s1.heap.objs.size + 1] → FpOk X pins H1 c := fun c hcm => by
        have hle : s1.heap.objs.size ≤ c := by
          simp only [List.mem_cons, List.not_mem_nil, or_false] at hcm
          omega
        exact I1.fpOk hle (I1.hok.fresh hle)
      obtain ⟨its, rv, p1, _⟩ := I1.list hqx
      obtain ⟨its2, rv2, p2, _⟩ := I1.tuple hqy
      obtain ⟨o2, ho2, _⟩ := id p2
      refine zip_begins2 (begins_list a its.toArray) (begins_tuple b its2.toArray) p1.isList p2 fun h' hz hTI hTO h1 h2 hsz hk => wpAny_pyIter_zip hz ?_
      have I2 : Inv X pins σ H1 { s1 with heap := h' } := I1.kept (t' := s1.toks) hk
      exact ⟨s1.heap.objs.size + 4, [s1.heap.objs.size + 4, s1.heap.objs.size + 2, s1.heap.objs.size + 3, s1.heap.objs.size, s1.heap.objs.size + 1], _, _, H1, rfl, I2, turn_zipLT (PySem.W.ktu_apart s1.heap.objs.size a b p1.lt (Heap.lt_size ho2)), ⟨hz, hTI, ⟨_, _, hTO⟩, ⟨_, h1, rfl, rfl⟩, ⟨_, h2, rfl, rfl⟩⟩, fresh5, q⟩
def iValsT (td : TE) : TI := fun σ H R => td σ H fun x H1 => ∃ d o kvs, x = .ref d ∧ H1 d = some (.frz o (.dT kvs)) ∧ R (Itdt d o kvs) H1
theorem pi_valuesT {X : Cx} {tg e : Expr} {td : TE} {apos cpos : Pos} (he : PE X e td) (hbase : attributeBase e "values" X.env (eval e X.env) = eval e X.env := by rfl) (hline : (apos.endLine == cpos.line) = true := by rfl) : PI X tg (.Call (.Attribute e "values" apos) [] [] cpos) (iValsT td) := by
  refine ⟨fun pins s σ H R I h => ?_⟩
  refine wpAny_Call_method (T := "dict") (id := "dict.values") hbase rfl hline F.plainAttrs_dict F.slot_dict_values F.type_dict_values (thn (he.run pins s σ H _ I h) fun u s1 ⟨x, H1, I1, rx, d, o, kvs, ex, hd, q⟩ => ?_)
  subst ex
  obtain rfl : u = Value.ref d := rx
  obtain ⟨hs, hgd, hx, es, ep, hdt, hsz, ent⟩ := frzT_val I1 hd
  have raw : s1.heap.DictRaw d es ep := ⟨o, hgd, hx, hdt⟩
  refine ⟨⟨o, hgd, hx.1⟩, fun b e => by cases e; exact ⟨o, hgd, hx.2.1⟩, ?_⟩
  have I2 : Inv X pins σ H1 { s1 with heap := s1.heap.push { cls := .type "dict_values", data := .fields #[.ref d] } } := I1.kept (t' := s1.toks) fun b ob q => Heap.get?_push_of_some _ q
  have fin : wpAny (model X.prog X.w) X.A (pyIter (.ref s1.heap.objs.size)) (PIE X pins σ tg R) X.xe { s1 with heap := s1.heap.push { cls := .type "dict_values", data := .fields #[.ref d] } } := by
    refine wpAny_pyIter_values_raw (d := d) ⟨_, Heap.get?_push_size _ rfl, rfl, rfl⟩ ⟨o, Heap.get?_push_of_some _ hgd, hx, hdt⟩ (pi_one (tk := s1.toks) I2 _ (turn_valsT _ hdt) ⟨_, Heap.get?_push_size _ rfl, rfl, ?_⟩ q)
    rw [hsz] <;> rfl
  show wpAny _ _ (callWith cpos (.builtin "dict.values") [.ref d] [] []) _ X.xe s1
  exact method_meetsIn F.slot_dict_values F.entry_dict_values rfl (PySem.evalArgs_none ⟨rfl, ⟨o, hgd, hx.1⟩, F.args_dict_values_1 _, _, meets_dict_values_raw d hs, ⟨⟨es, ep, raw⟩, fin⟩⟩)
section
variable {S : Stat} {e a b c elt : Expr} {es ifs : List Expr} {Γ Γ' : Gam} {Θ Θ' : Sto} {Post Post' : PoE} {pos : Pos}
theorem yields_zipLT {K : Frag} {H H00 : Hp} {p q : Addr} {xs ys : List V} {ds es : List Da} (hl : ds.length = es.length) (s : SqL K H p xs) (r : DvAll K H xs ds) (s2 : SqT K H q ys) (r2 : DvAll K H ys es) : Yields K (ItzLT K p q) (zipD ds es) Θ H H00 := fun Θ1 H' H1 f b => by
  have a := f.ke
  exact
  ⟨⟨xs, ys, b.seq (a.seq s), seqT b (seqT a s2), by rw [zipD_len, r.length]; omega, by rw [zipD_len, r2.length]; omega, by rw [zipD_len, r.length, r2.length]; omega⟩, fun i z hz => by
    obtain ⟨d, e, hd, he, rfl⟩ := zipD_get hz
    obtain ⟨v, hv, rv⟩ := r.getd hd
    obtain ⟨w, hw, rw_⟩ := r2.getd he
    refine ⟨⟨xs, ys, v, w, b.seq (a.seq s), seqT b (seqT a s2), hv, hw⟩, fun u H2 y => ?_⟩
    obtain ⟨T, x, y', rfl, nT, rfl, y1, y2⟩ := y
    have e1 := y1 xs (b.seq (a.seq s))
    have e2 := y2 ys (seqT b (seqT a s2))
    rw [hv] at e1
    rw [hw] at e2
    cases e1
    cases e2
    have n' : H' T = none := b.free nT
    refine ⟨upd H' T (.tup [v, w]), same_upd n', fun z o e => ?_, same_upd nT, fun z h => ?_, .tup upd_same (.cons ((rv.mono a).mono (same_upd n')) (.one ((rw_.mono a).mono (same_upd n'))))⟩
    · by_cases w : z = T
      · subst w; rw [upd_same] at e ⊢; exact e
      · rw [upd_ne w] at e ⊢; exact b z o e
    · by_cases w : z = T
      · subst w; exact .inr nT
      · rw [upd_ne w] at h; exact .inl h⟩
/-- zip(a list, a tuple), of one length -/
theorem ei_zipLT {elts : List Expr} {kk : Nat} {p tpos : Pos} {P : List Da → Sto → Prop} (hx : Bs S "zip" (.type "zip")) (h : ev S a Γ Θ fun d Θ1 => ev S b Γ Θ1 fun d2 Θ2 => ∃ xs ys, d = .lst xs ∧ d2 = .tup ys ∧ xs.length = ys.length ∧ P (zipD xs ys) Θ2) (hs : NoStar a := by intro _ _; rfl) (hs2 : NoStar b := by intro _ _; rfl) (hpl : NoStars [b] := by intro _ _; rfl) :
    ei S (.Tuple elts kk tpos) (.Call (.Name "zip" p) [a, b] [] pos) Γ Θ P :=
  ei_mk (t := iZipLT S.K (wA S [a, b])) (fun X o => o.K ▸ pi_zipLT (o.gl hx.1) (by rw [o.mg]; exact hx.2.1) (w_a o _) (hs _ _) (hpl _ _)) fun σ H H1 R Q k => ea2 h hs hs2 σ H H1 R _ fun vs ds H' H2 Θ' ⟨d, d2, ed, xs, ys, e1, e2, hl, po⟩ f R' r => by
    subst e1 e2 ed
    cases r with
    | cons r1 r2 =>
      cases r2 with
      | cons r2 r3 =>
        cases r3
        cases r1 with
        | lst s q =>
          cases r2 with
          | tup s2 q2 => exact ⟨_, _, _, _, rfl, .inl (.inl (R'.ex _ _ s)), .inl (.inl (R'.ex _ _ s2)), k _ _ _ _ _ po f R' (yields_zipLT hl (.inl (.inl s)) q (.inl (.inl s2)) q2)⟩
end
section
variable {S : Stat} {e a b c elt : Expr} {es ifs : List Expr} {Γ Γ' : Gam} {Θ Θ' : Sto} {Post Post' : PoE} {pos : Pos}
theorem yields_valsT {K : Frag} {H H00 : Hp} {p : Addr} {o : Obj} {vs : List (List Key × V)} {ds : List Da} (h0 : H00 p = some (.frz o (.dT vs))) (hT : Θ p = none) (r : DvAll K H (vs.map (·.2)) ds) : Yields K (Itdt p o vs) ds Θ H H00 := fun Θ1 H' H1 f b => by
  have a := f.ke
  have e1 : H1 p = some (.frz o (.dT vs)) := f.fr p _ hT h0
  have l := r.length
  rw [List.length_map] at l
  refine ⟨⟨e1, by omega⟩, fun i x hx => ?_⟩
  obtain ⟨v, hv, rv⟩ := r.getd hx
  rw [List.getElem?_map] at hv
  have hi : i < ds.length := (List.getElem?_eq_some_iff.mp hx).1
  refine ⟨⟨e1, by omega⟩, fun u H2 y => ?_⟩
  obtain ⟨rfl, k, hk⟩ := y
  rw [hk] at hv
  cases hv
  exact ⟨H', Same.refl _, b, Same.refl _, fun _ h => .inl h, rv.mono a⟩
/-- [.. for x in d.values() ..], d in the slot i -/
theorem ev_lcV {x : Str} {tg : Expr} {scope : Scope} {g : TG} {apos cpos px : Pos} {q : Addr} {kvs : List (List Key × Da)} (i : Nat) (own : List (Str × Nat)) (I : List Da → Nat → List Da → Sto → Prop) (hN : S.N.Nodup) (hx : S.N[i]? = some x) (hv : Vis S.sc x) (hi : Γ[i]? = some (some (.obj q))) (hq : Θ q = some (.dT kvs))
    (ok : blkC S.N S.sc scope own = true) (hif : ifs.length ≤ 1) (hg : ∀ X, Ok (S.blk scope) X → PG X tg g)
    (h : CompI S tg elt ifs scope g (own.map (·.2)) Γ I (fun d Θ' => Post d (updS Θ' q (.dT kvs))) (kvs.map (·.2)) (delS Θ q)) (hline : (apos.endLine == cpos.line) = true)
    (hd : (x == ("__debug__" : Str)) = false) (hcd : (x == ("__classdict__" : Str)) = false)
    (hbase : ∀ env : Env, attributeBase (.Name x px) "values" env (eval (.Name x px) env) = eval (.Name x px) env := by intro _; rfl) (hs : ∀ (env : Env) (y : Value), foldedSetIterable (.Call (.Attribute (.Name x px) "values" apos) [] [] cpos) env y = pure y := by intro _ _; rfl) :
    ev S (.ListComp elt [⟨tg, .Call (.Attribute (.Name x px) "values" apos) [] [] cpos, ifs, 0⟩] scope pos) Γ Θ Post :=
  ev_mk (t := tLockE (tLc (iValsT (tVar i)) g (wTs (S.blk scope) ifs) (wE (S.blk scope) elt) (own.map (·.2)))) (fun X o => pe_lock (pe_lc o.calm (by rw [o.N]; exact hN) (pi_valuesT (pe_var (by rw [o.N]; exact hx) (by rw [o.sc]; exact hv) hd hcd) (hbase _) hline) (blk_of o ok) (fun s H C cl fp => hg _ (o.blk s H C cl fp)) (fun s H C cl fp => w_ts (o.blk s H C cl fp) ifs hif) (fun s H C cl fp => w_e (o.blk s H C cl fp) elt) (hs _)))
    fun σ H H1 R Q k => by
    obtain ⟨n1, vs, e1, pa⟩ := R.sto q _ hq
    refine ⟨q, .dT vs, e1, trivial, fun od => ?_⟩
    have R1 : Rep S.K σ H (upd H1 q (.frz od (.dT vs))) Γ (delS Θ q) := ⟨same_updB R.ex n1, R.len, R.env, fun b o e => by
      have z : b ≠ q := fun z => by rw [z, delS_same] at e; cases e
      rw [delS_ne z] at e
      obtain ⟨n, ok⟩ := R.sto b o e
      exact ⟨n, ok.mono (Same.refl _) fun w y => by rw [upd_ne z]; exact y⟩⟩
    refine lc_runG (tg := tg) (Post := fun d Θ' => Post d (updS Θ' q (.dT kvs))) R1 I _ (fun Rr kk => ?_) fun v d H' H2 Θ' po f R2 rv => ?_
    · obtain ⟨v, hv, rv⟩ := R.env i _ hi
      cases rv
      exact ⟨_, hv, q, od, vs, rfl, upd_same, kk _ _ _ _ _ h Fr.refl R1 (yields_valsT upd_same delS_same pa.2)⟩
    · have e2 : H2 q = some (.frz od (.dT vs)) := f.fr q _ delS_same upd_same
      have n2 : H' q = none ∧ Θ' q = none := by
        have z : ¬ (H' q ≠ none ∨ Θ' q ≠ none) := fun z => by
          rcases f.nw q z with z | z | z
          · exact z n1
          · exact z delS_same
          · rw [upd_same] at z; cases z
        exact ⟨Classical.byContradiction fun y => z (.inl y), Classical.byContradiction fun y => z (.inr y)⟩
      refine ⟨e2, k v d H' _ _ po ⟨f.ke, fun b o n e => ?_, fun b o e => ?_, fun b n => ?_⟩ ⟨same_updB R2.ex n2.1, R2.len, R2.env, fun b o e => ?_⟩ rv⟩
      · have z : b ≠ q := fun z => by rw [z, hq] at n; cases n
        rw [upd_ne z]
        exact f.fr b o (by rw [delS_ne z]; exact n) (by rw [upd_ne z]; exact e)
      · by_cases z : b = q
        · subst z; exact ⟨_, upd_same⟩
        · obtain ⟨o', e'⟩ := f.th b o (by rw [upd_ne z]; exact e)
          exact ⟨o', by rw [upd_ne z]; exact e'⟩
      · by_cases z : b = q
        · subst z; exact .inr (.inl (by rw [hq]; simp))
        · rw [updS_ne z] at n
          rcases f.nw b n with y | y | y
          · exact .inl y
          · rw [delS_ne z] at y; exact .inr (.inl y)
          · rw [upd_ne z] at y; exact .inr (.inr y)
      · by_cases z : b = q
        · subst z
          rw [updS_same] at e
          cases e
          exact ⟨n2.1, vs, upd_same, pa.mono f.ke⟩
        · rw [updS_ne z] at e
          obtain ⟨n, ok⟩ := R2.sto b o e
          exact ⟨n, ok.mono (Same.refl _) fun w y => by rw [upd_ne z]; exact y⟩
theorem unlockR {σ σ' : L2.St} {H H1 H' H2 : Hp} {q : Addr} {kvs : List (List Key × Da)} {vs : List (List Key × V)} {od : Obj} (R : Rep S.K σ H H1 Γ Θ) (hq : Θ q = some (.dT kvs)) (pa : PAll S.K H vs kvs)
    (f : Fr (delS Θ q) H (upd H1 q (.frz od (.dT vs))) Θ' H' H2) (R2 : Rep S.K σ' H' H2 Γ' Θ') : H2 q = some (.frz od (.dT vs)) ∧ Fr Θ H H1 (updS Θ' q (.dT kvs)) H' (upd H2 q (.dT vs)) ∧ Rep S.K σ' H' (upd H2 q (.dT vs)) Γ' (updS Θ' q (.dT kvs)) := by
  obtain ⟨n1, _⟩ := R.sto q _ hq
  have e2 : H2 q = some (.frz od (.dT vs)) := f.fr q _ delS_same upd_same
  have n2 : H' q = none ∧ Θ' q = none := by
    have z : ¬ (H' q ≠ none ∨ Θ' q ≠ none) := fun z => by
      rcases f.nw q z with z | z | z
      · exact z n1
      · exact z delS_same
      · rw [upd_same] at z; cases z
    exact ⟨Classical.byContradiction fun y => z (.inl y), Classical.byContradiction fun y => z (.inr y)⟩
  refine ⟨e2, ⟨f.ke, fun b o n e => ?_, fun b o e => ?_, fun b n => ?_⟩, ⟨same_updB R2.ex n2.1, R2.len, R2.env, fun b o e => ?_⟩⟩
  · have z : b ≠ q := fun z => by rw [z, hq] at n; cases n
    rw [upd_ne z]
    exact f.fr b o (by rw [delS_ne z]; exact n) (by rw [upd_ne z]; exact e)
  · by_cases z : b = q
    · subst z; exact ⟨_, upd_same⟩
    · obtain ⟨o', e'⟩ := f.th b o (by rw [upd_ne z]; exact e)
      exact ⟨o', by rw [upd_ne z]; exact e'⟩
  · by_cases z : b = q
    · subst z; exact .inr (.inl (by rw [hq]; simp))
    · rw [updS_ne z] at n
      rcases f.nw b n with y | y | y
      · exact .inl y
      · rw [delS_ne z] at y; exact .inr (.inl y)
      · rw [upd_ne z] at y; exact .inr (.inr y)
  · by_cases z : b = q
    · subst z
      rw [updS_same] at e
      cases e
      exact ⟨n2.1, vs, upd_same, pa.mono f.ke⟩
    · rw [updS_ne z] at e
      obtain ⟨n, ok⟩ := R2.sto b o e
      exact ⟨n, ok.mono (Same.refl _) fun w y => by rw [upd_ne z]; exact y⟩
theorem lockR {σ : L2.St} {H H1 : Hp} {q : Addr} {o : HO} {w : Ob} (R : Rep S.K σ H H1 Γ Θ) (hq : Θ q = some w) : Rep S.K σ H (upd H1 q o) Γ (delS Θ q) :=
  ⟨same_updB R.ex (R.sto q _ hq).1, R.len, R.env, fun b o e => by
    have z : b ≠ q := fun z => by rw [z, delS_same] at e; cases e
    rw [delS_ne z] at e
    obtain ⟨n, ok⟩ := R.sto b o e
    exact ⟨n, ok.mono (Same.refl _) fun w y => by rw [upd_ne z]; exact y⟩⟩
/-- y = [.. for x in d.values() ..] on one line, d in the slot i -/
theorem ex1_setLcV {x y : Str} {tg : Expr} {scope : Scope} {g : TG} {apos cpos px py spos : Pos} {q : Addr} {kvs : List (List Key × Da)} {D : DE} (i j : Nat) (own : List (Str × Nat)) (I : List Da → Nat → List Da → Sto → Prop) (hN : S.N.Nodup) (hx : S.N[i]? = some x) (hv : Vis S.sc x) (hi : Γ[i]? = some (some (.obj q))) (hq : Θ q = some (.dT kvs))
    (hy : S.N[j]? = some y) (hyl : S.sc.names.lookup y = some .local)
    (hsw : ∀ env : Env, env.scope = S.sc → swapsWith (.ListComp elt [⟨tg, .Call (.Attribute (.Name x px) "values" apos) [] [] cpos, ifs, 0⟩] scope pos) (some (.Name y py)) spos.line env = pure true)
    (ok : blkC S.N S.sc scope own = true) (hif : ifs.length ≤ 1) (hg : ∀ X, Ok (S.blk scope) X → PG X tg g)
    (h : CompI S tg elt ifs scope g (own.map (·.2)) Γ I (fun d Θ' => D.nx (Γ.set j (some d)) (updS Θ' q (.dT kvs))) (kvs.map (·.2)) (delS Θ q)) (hline : (apos.endLine == cpos.line) = true)
    (hd : (x == ("__debug__" : Str)) = false) (hcd : (x == ("__classdict__" : Str)) = false)
    (hbase : ∀ env : Env, attributeBase (.Name x px) "values" env (eval (.Name x px) env) = eval (.Name x px) env := by intro _; rfl) (hs : ∀ (env : Env) (y : Value), foldedSetIterable (.Call (.Attribute (.Name x px) "values" apos) [] [] cpos) env y = pure y := by intro _ _; rfl) :
    ex1 S (.Assign [.Name y py] (.ListComp elt [⟨tg, .Call (.Attribute (.Name x px) "values" apos) [] [] cpos, ifs, 0⟩] scope pos) spos) Γ Θ D :=
  ex1_mk (t := tLock (tAsg (tLc (iValsT (tVar i)) g (wTs (S.blk scope) ifs) (wE (S.blk scope) elt) (own.map (·.2))) (gName j))) (fun X o => ps_lock (ps_setLc o.calm (by rw [o.N]; exact hN) (by rw [o.N]; exact hy) (by rw [o.sc]; exact hyl) (hsw _ o.sc) (pi_valuesT (pe_var (by rw [o.N]; exact hx) (by rw [o.sc]; exact hv) hd hcd) (hbase _) hline) (blk_of o ok) (fun s H C cl fp => hg _ (o.blk s H C cl fp)) (fun s H C cl fp => w_ts (o.blk s H C cl fp) ifs hif) (fun s H C cl fp => w_e (o.blk s H C cl fp) elt) (hs _)))
    fun σ H H1 R E k => by
    obtain ⟨n1, vs, e1, pa⟩ := R.sto q _ hq
    refine ⟨q, .dT vs, e1, trivial, fun od => ?_⟩
    refine lc_runG (tg := tg) (Post := fun d Θ' => D.nx (Γ.set j (some d)) (updS Θ' q (.dT kvs))) (lockR R hq) I _ (fun Rr kk => ?_) fun v d H' H2 Θ' po f R2 rv => ?_
    · obtain ⟨v, hv, rv⟩ := R.env i _ hi
      cases rv
      exact ⟨_, hv, q, od, vs, rfl, upd_same, kk _ _ _ _ _ h Fr.refl (lockR R hq) (yields_valsT upd_same delS_same pa.2)⟩
    · obtain ⟨a, b, c⟩ := unlockR R hq pa f R2
      exact ⟨a, k.nx _ _ _ _ _ po b (c.set rv)⟩
end
end Z
/-! ZAuto: the rules in the form that a tactic asks: what is plain to compute stands as a Bool. -/
namespace Z
open PySem PySem.Spec PyProof.Rows L2
def CDivZ (_ j : Int) : Prop := j ≠ 0 ∧ j.natAbs.log2 < 9000
theorem op_fdivZ {X : Cx} : OpR X (binaryOp .FloorDiv) (rI CDivZ fun i j => .int (i.fdiv j)) := opI fun i j _ _ _ _ _ hc q => floordiv_int hc.1 q (.inl (PyProof.noPylong_of_log2 hc.2))
def visB (sc : Scope) (x : Str) : Bool := (match sc.names.lookup x with
  | some .local => true
  | some .cell => true
  | some .free => true
  | _ => false) && !(x == ("__debug__" : Str)) && !(x == ("__classdict__" : Str))
theorem visB_of {sc : Scope} {x : Str} (h : visB sc x = true) : Vis sc x ∧ (x == ("__debug__" : Str)) = false ∧ (x == ("__classdict__" : Str)) = false := by
  unfold visB at h
  rw [Bool.and_eq_true, Bool.and_eq_true, Bool.not_eq_true', Bool.not_eq_true'] at h
  refine ⟨?_, h.1.2, h.2⟩
  have h := h.1.1
  unfold Vis
  split at h <;> simp_all
def locB (sc : Scope) (x : Str) : Bool := match sc.names.lookup x with
  | some .local => true
  | some .cell => true
  | _ => false
theorem locB_of {sc : Scope} {x : Str} (h : locB sc x = true) : Loc sc x := by
  unfold locB at h
  unfold L2.Loc
  split at h <;> simp_all
def stoB (fn : Str → Bool) (sc : Scope) (x : Str) : Bool := locB sc x && (fn x || decide (sc.names.lookup x = some .local))
theorem stoB_of {fn : Str → Bool} {sc : Scope} {x : Str} (h : stoB fn sc x = true) : Loc sc x ∧ (fn x = true ∨ sc.names.lookup x = some .local) := by
  unfold stoB at h
  rw [Bool.and_eq_true, Bool.or_eq_true, decide_eq_true_eq] at h
  exact ⟨locB_of h.1, h.2⟩
inductive At : List Str → Str → Nat → Prop
  | here {x : Str} {N : List Str} : At (x :: N) x 0
  | there {x y : Str} {N : List Str} {i : Nat} : At N x i → At (y :: N) x (i + 1)
theorem At.get {N : List Str} {x : Str} {i : Nat} (h : At N x i) : N[i]? = some x := by
  induction h with
  | here => rfl
  | there _ ih => exact ih
def gsB (sc : Scope) (x : Str) : Bool := decide (sc.names.lookup x = some .globalImplicit)
def ndB (N : List Str) : Bool := decide N.Nodup
theorem ndB_of {N : List Str} (h : ndB N = true) : N.Nodup := of_decide_eq_true h
section
variable {S : Stat} {e a b c elt it : Expr} {es ifs : List Expr} {Γ Γ' : Gam} {Θ Θ' : Sto} {Post Post' : PoE} {PB : Bool → Sto → Prop} {PG : Gam → Sto → Prop} {pos p : Pos} {x : Str}
theorem gsB_of (h : gsB S.sc x = true) : Gs S x := by
  unfold gsB at h
  rw [decide_eq_true_eq] at h
  exact h
theorem ev_nm {d : Da} {i : Nat} (hN : At S.N x i) (hΓ : Γ[i]? = some (some d)) (hv : visB S.sc x = true) (h : Post d Θ) : ev S (.Name x pos) Γ Θ Post :=
  have q := visB_of hv
  ev_name hN.get q.1 hΓ h q.2.1 q.2.2
theorem eg_nm {d : Da} {Γ1 : Gam} {i : Nat} (hN : At S.N x i) (nd : ndB S.N = true) (hx : stoB S.fn S.sc x = true) (hΓ : Γ.set i (some d) = Γ1) (h : PG Γ1 Θ) : eg S (.Name x pos) d Γ Θ PG :=
  have q := stoB_of hx
  eg_name (ndB_of nd) hN.get q.1 (hΓ ▸ h) q.2
theorem bs_of {u : Value} (hg : gsB S.sc x = true) (hm : S.mg x = none) (hb : bootBuiltins x = some u) : Bs S x u := ⟨gsB_of hg, hm, hb⟩
theorem ev_fdivZ (h : ev S a Γ Θ fun x Θ1 => ev S b Γ Θ1 fun y Θ2 => ∃ i j, x = .int i ∧ y = .int j ∧ CDivZ i j ∧ Post (.int (i.fdiv j)) Θ2) : ev S (.BinOp a .FloorDiv b pos) Γ Θ Post := ev_opI (fun _ => op_fdivZ) h
theorem seqL {ds : List Da} : SeqD Θ (.lst ds) ds := .inl rfl
theorem seqT' {ds : List Da} : SeqD Θ (.tup ds) ds := .inr (.inl rfl)
theorem seqO {ds : List Da} {q : Addr} (h : Θ q = some (.lst ds)) : SeqD Θ (.obj q) ds := .inr (.inr (.inl ⟨_, rfl, h⟩))
theorem seqWl {ds : List Da} : SeqD Θ (.wls ds) ds := .inr (.inr (.inr (.inl rfl)))
theorem seqWt {ds : List Da} : SeqD Θ (.wtp ds) ds := .inr (.inr (.inr (.inr rfl)))
/-! branches -/
theorem br_dec {q : Prop} [Decidable q] {A B : Prop} (h1 : q → A) (h2 : ¬q → B) : if decide q = true then A else B := by
  by_cases h : q
  · rw [if_pos (by simpa using h)]; exact h1 h
  · rw [if_neg (by simpa using h)]; exact h2 h
theorem br_ndec {q : Prop} [Decidable q] {A B : Prop} (h1 : ¬q → A) (h2 : q → B) : if (!decide q) = true then A else B := by
  by_cases h : q
  · rw [if_neg (by simpa using h)]; exact h2 h
  · rw [if_pos (by simpa using h)]; exact h1 h
theorem br_t {A B : Prop} (h : A) : if true = true then A else B := by rw [if_pos rfl]; exact h
theorem br_f {A B : Prop} (h : B) : if false = true then A else B := by rw [if_neg Bool.false_ne_true]; exact h
theorem br_b {k : Bool} {A B : Prop} (h1 : k = true → A) (h2 : k = false → B) : if k = true then A else B := by
  cases k with
  | true => rw [if_pos rfl]; exact h1 rfl
  | false => rw [if_neg Bool.false_ne_true]; exact h2 rfl
theorem br_nb {k : Bool} {A B : Prop} (h1 : k = false → A) (h2 : k = true → B) : if (!k) = true then A else B := by
  cases k with
  | true => rw [if_neg (by decide)]; exact h2 rfl
  | false => rw [if_pos (by decide)]; exact h1 rfl
/-! a comprehension whose element stores nothing: the things, each let through or not, each made anew -/
/-- one name -/
theorem ev_lc1 {px : Pos} {scope : Scope} {i : Nat} (f : Da → Option Da) (nd : ndB S.N = true) (hA : At S.N x i) (hx : stoB (fun y => scope.names.lookup y == some .cell) (relS scope S.sc) x = true) (ok : blkC S.N S.sc scope [(x, i)] = true) (hif : ifs.length ≤ 1)
    (h : ei S (.Name x px) it Γ Θ fun ds Θ1 => ds.length < sizeLine ∧ (∀ d, d ∈ ds → ets (S.blk scope) ifs ((Γ.set i none).set i (some d)) Θ1 fun k Θ3 => if k = true then ev (S.blk scope) elt ((Γ.set i none).set i (some d)) Θ3 fun y Θ4 => Θ4 = Θ1 ∧ f d = some y else Θ3 = Θ1 ∧ f d = none) ∧ Post (.lst (ds.filterMap f)) Θ1)
    (hs : ∀ (env : Env) (x : Value), foldedSetIterable it env x = pure x := by intro _ _; rfl) : ev S (.ListComp elt [⟨.Name x px, it, ifs, 0⟩] scope pos) Γ Θ Post := by
  have q := stoB_of hx
  have hN := hA.get
  refine ev_lc (g := gName i) [(x, i)] (fun ds n acc Θ2 => ∃ Θ1, Θ2 = Θ1 ∧ acc = (ds.take n).filterMap f ∧ (∀ d, d ∈ ds → ets (S.blk scope) ifs ((Γ.set i none).set i (some d)) Θ1 fun k Θ3 => if k = true then ev (S.blk scope) elt ((Γ.set i none).set i (some d)) Θ3 fun y Θ4 => Θ4 = Θ1 ∧ f d = some y else Θ3 = Θ1 ∧ f d = none) ∧ Post (.lst (ds.filterMap f)) Θ1) (ndB_of nd) ok hif
    (fun X o => pg_name (by rw [o.N]; exact ndB_of nd) (by rw [o.N]; exact hN) (o.loc q.1) (by rw [o.fn, o.sc]; exact q.2)) (fun σ H H1 R Q k => h σ H H1 R Q fun J ds H' H2 Θ' ⟨h1, h2, h3⟩ => k J ds H' H2 Θ' ⟨h1, ⟨Θ', rfl, rfl, h2, h3⟩, ?_, ?_⟩) hs
  · rintro n d acc Θ2 hd _ ⟨Θ1, rfl, rfl, h2, h3⟩
    refine ⟨_, tg_name (by simp) (ndB_of nd) hN q.1 q.2, ?_⟩
    have hm := List.mem_of_getElem? hd
    have ht : ds.take (n + 1) = ds.take n ++ [d] := by rw [List.take_add_one, hd]; rfl
    have z := h2 d hm
    have im : ∀ {k : Bool} {Θ3 : Sto}, (if k = true then ev (S.blk scope) elt ((Γ.set i none).set i (some d)) Θ3 fun y Θ4 => Θ4 = Θ2 ∧ f d = some y else Θ3 = Θ2 ∧ f d = none) →
        if k = true then ev (S.blk scope) elt ((Γ.set i none).set i (some d)) Θ3 fun y Θ4 => ∃ Θ1, Θ4 = Θ1 ∧ (ds.take n).filterMap f ++ [y] = (ds.take (n + 1)).filterMap f ∧ (∀ d, d ∈ ds → ets (S.blk scope) ifs ((Γ.set i none).set i (some d)) Θ1 fun k Θ3 => if k = true then ev (S.blk scope) elt ((Γ.set i none).set i (some d)) Θ3 fun y Θ4 => Θ4 = Θ1 ∧ f d = some y else Θ3 = Θ1 ∧ f d = none) ∧ Post (.lst (ds.filterMap f)) Θ1
        else ∃ Θ1, Θ3 = Θ1 ∧ (ds.take n).filterMap f = (ds.take (n + 1)).filterMap f ∧ (∀ d, d ∈ ds → ets (S.blk scope) ifs ((Γ.set i none).set i (some d)) Θ1 fun k Θ3 => if k = true then ev (S.blk scope) elt ((Γ.set i none).set i (some d)) Θ3 fun y Θ4 => Θ4 = Θ1 ∧ f d = some y else Θ3 = Θ1 ∧ f d = none) ∧ Post (.lst (ds.filterMap f)) Θ1 := by
      intro k Θ3 hk
      cases k with
      | true =>
        rw [if_pos rfl] at hk ⊢
        refine hk.imp fun y Θ4 ⟨e1, e2⟩ => ?_
        subst e1
        exact ⟨_, rfl, by rw [ht, List.filterMap_append]; simp [e2], h2, h3⟩
      | false =>
        rw [if_neg Bool.false_ne_true] at hk ⊢
        obtain ⟨e1, e2⟩ := hk
        subst e1
        exact ⟨_, rfl, by rw [ht, List.filterMap_append]; simp [e2], h2, h3⟩
    exact ets_imp z fun k Θ3 => im
  · rintro acc Θ2 ⟨Θ1, rfl, rfl, h2, h3⟩ _
    rw [List.take_length]
    exact h3
/-- a loop over things that are told, turn by turn -/
def forU (S : Stat) (tg : Expr) (body : List Stmt) (D : DE) : List Da → Gam → Sto → Prop
  | [], Γ, Θ => D.nx Γ Θ
  | d :: ds, Γ, Θ => eg S tg d Γ Θ fun Γ1 Θ1 => ex S body Γ1 Θ1 { nx := forU S tg body D ds, ct := forU S tg body D ds, bk := D.nx, rt := D.rt }
theorem ex1_forU {tg : Expr} {body : List Stmt} {D : DE} (h : ei S tg it Γ Θ fun ds Θ1 => forU S tg body D ds Γ Θ1) (hs : ∀ (env : Env) (x : Value), foldedSetIterable it env x = pure x := by intro _ _; rfl) : ex1 S (.For tg it body [] pos) Γ Θ D :=
  ex1_for (fun ds n Γ1 Θ1 => forU S tg body D (ds.drop n) Γ1 Θ1) (fun σ H H1 R Q k => h σ H H1 R Q fun J ds H' H2 Θ' q => k J ds H' H2 Θ' ⟨q, fun i x Γ1 Θ2 hx q => by
    have e : ds.drop i = x :: ds.drop (i + 1) := by
      obtain ⟨hi, rfl⟩ := List.getElem?_eq_some_iff.mp hx
      exact List.drop_eq_getElem_cons hi
    rw [e] at q
    exact q, fun Γ1 Θ2 q => by
    rw [List.drop_length] at q
    exact q⟩) hs
/-- a comprehension over things that are told, turn by turn -/
def lcU (S : Stat) (elt : Expr) (ifs : List Expr) (i : Nat) (Γ : Gam) (Post : PoE) : List Da → List Da → Sto → Prop
  | [], acc, Θ => Post (.lst acc) Θ
  | d :: ds, acc, Θ => ets S ifs ((Γ.set i none).set i (some d)) Θ fun k Θ3 => if k = true then ev S elt ((Γ.set i none).set i (some d)) Θ3 fun y Θ4 => lcU S elt ifs i Γ Post ds (acc ++ [y]) Θ4 else lcU S elt ifs i Γ Post ds acc Θ3
theorem ev_lcU {px : Pos} {scope : Scope} {i : Nat} (nd : ndB S.N = true) (hA : At S.N x i) (hx : stoB (fun y => scope.names.lookup y == some .cell) (relS scope S.sc) x = true) (ok : blkC S.N S.sc scope [(x, i)] = true) (hif : ifs.length ≤ 1)
    (h : ei S (.Name x px) it Γ Θ fun ds Θ1 => ds.length < sizeLine ∧ lcU (S.blk scope) elt ifs i Γ Post ds [] Θ1)
    (hs : ∀ (env : Env) (x : Value), foldedSetIterable it env x = pure x := by intro _ _; rfl) : ev S (.ListComp elt [⟨.Name x px, it, ifs, 0⟩] scope pos) Γ Θ Post := by
  have q := stoB_of hx
  have hN := hA.get
  refine ev_lc (g := gName i) [(x, i)] (fun ds n acc Θ2 => lcU (S.blk scope) elt ifs i Γ Post (ds.drop n) acc Θ2) (ndB_of nd) ok hif
    (fun X o => pg_name (by rw [o.N]; exact ndB_of nd) (by rw [o.N]; exact hN) (o.loc q.1) (by rw [o.fn, o.sc]; exact q.2)) (fun σ H H1 R Q k => h σ H H1 R Q fun J ds H' H2 Θ' ⟨h1, h2⟩ => k J ds H' H2 Θ' ⟨h1, h2, ?_, ?_⟩) hs
  · intro n d acc Θ2 hd _ hq
    have e : ds.drop n = d :: ds.drop (n + 1) := by
      obtain ⟨hi, rfl⟩ := List.getElem?_eq_some_iff.mp hd
      exact List.drop_eq_getElem_cons hi
    rw [e] at hq
    exact ⟨_, tg_name (by simp) (ndB_of nd) hN q.1 q.2, hq⟩
  · intro acc Θ2 hq _
    rw [List.drop_length] at hq
    exact hq
theorem forU_nil {tg : Expr} {body : List Stmt} {D : DE} (h : D.nx Γ Θ) : forU S tg body D [] Γ Θ := h
theorem forU_cons {tg : Expr} {body : List Stmt} {D : DE} {d : Da} {ds : List Da} (h : eg S tg d Γ Θ fun Γ1 Θ1 => ex S body Γ1 Θ1 { nx := forU S tg body D ds, ct := forU S tg body D ds, bk := D.nx, rt := D.rt }) : forU S tg body D (d :: ds) Γ Θ := h
theorem lcU_nil {i : Nat} {acc : List Da} (h : Post (.lst acc) Θ) : lcU S elt ifs i Γ Post [] acc Θ := h
theorem lcU_cons {i : Nat} {d : Da} {ds acc : List Da} {Γ1 : Gam} {accf : Da → List Da} (hΓ : (Γ.set i none).set i (some d) = Γ1) (ha : ∀ y, acc ++ [y] = accf y) (h : ets S ifs Γ1 Θ fun k Θ3 => if k = true then ev S elt Γ1 Θ3 fun y Θ4 => lcU S elt ifs i Γ Post ds (accf y) Θ4 else lcU S elt ifs i Γ Post ds acc Θ3) : lcU S elt ifs i Γ Post (d :: ds) acc Θ := by
  unfold lcU
  rw [hΓ]
  simp only [ha]
  exact h
theorem ets_nil (h : PB true Θ) : ets S [] Γ Θ PB := h
theorem ets_one (h : et S c Γ Θ PB) : ets S [c] Γ Θ PB := h
/-- x, y = a, b -/
theorem ex1_parA {i j : Nat} {x y : Str} {px py pt : Pos} {kt k2 : Nat} {pt2 : Pos} {D : DE} (hi : At S.N x i) (hj : At S.N y j) (nd : ndB S.N = true) (hx : S.sc.names.lookup x = some .local) (hy : S.sc.names.lookup y = some .local) (hij : decide (i = j) = false)
    (hw : ∀ env : Env, env.scope = S.sc → swappedStores [.Tuple [.Name x px, .Name y py] kt pt] (.Tuple [a, b] k2 pt2) env = pure (some [x, y]))
    (h : ev S a Γ Θ fun d1 Θ1 => ev S b Γ Θ1 fun d2 Θ2 => D.nx ((Γ.set i (some d1)).set j (some d2)) Θ2) (hs : NoStar a := by intro _ _; rfl) (hs2 : NoStar b := by intro _ _; rfl)
    (hl : ∀ env : Env, swapsWithSole [.Tuple [.Name x px, .Name y py] kt pt] (.Tuple [a, b] k2 pt2) pos.line env = pure false := by intro _; rfl) : ex1 S (.Assign [.Tuple [.Name x px, .Name y py] kt pt] (.Tuple [a, b] k2 pt2) pos) Γ Θ D :=
  ex1_par (ndB_of nd) hi.get hj.get (of_decide_eq_false hij) h (fun X o => ps_par o.calm (by rw [o.N]; exact ndB_of nd) (by rw [o.N]; exact hi.get) (by rw [o.N]; exact hj.get) (of_decide_eq_false hij) (by rw [o.sc]; exact hx) (by rw [o.sc]; exact hy) (w_a o _) (hw _ o.sc) (hl _)) hs hs2
theorem ex1_asgS {tg : Expr} {D : DE} (hs : ∀ env : Env, env.scope = S.sc → swapsWithSole [tg] e pos.line env = pure false) (h : ev S e Γ Θ fun d Θ1 => eg S tg d Γ Θ1 D.nx) (hw : ∀ env : Env, swappedStores [tg] e env = pure none := by intro _; rfl) (h1 : PlainTg tg := by intro _ _; rfl) : ex1 S (.Assign [tg] e pos) Γ Θ D :=
  ex1_mk (fun X o => ps_asg (w_e o e) (w_g o tg) (hs _ o.sc) (hw _) (h1 [] _)) fun σ H H1 R E k => h σ H H1 R _ fun v d H' H2 Θ1 g f R' r => g σ H' H2 v R' r _ fun σ' Γ' H'' H3 Θ2 p f2 R2 => k.nx _ _ _ _ _ p (f.trans R' f2) R2
/-- y = [..], on one line, turn by turn -/
theorem ex1_setLcU {y : Str} {py px spos : Pos} {scope : Scope} {i j : Nat} {D : DE} (nd : ndB S.N = true) (hY : At S.N y j) (hyl : S.sc.names.lookup y = some .local) (hA : At S.N x i) (hx : stoB (fun y => scope.names.lookup y == some .cell) (relS scope S.sc) x = true) (ok : blkC S.N S.sc scope [(x, i)] = true) (hif : ifs.length ≤ 1)
    (hsw : ∀ env : Env, env.scope = S.sc → swapsWith (.ListComp elt [⟨.Name x px, it, ifs, 0⟩] scope pos) (some (.Name y py)) spos.line env = pure true)
    (h : ei S (.Name x px) it Γ Θ fun ds Θ1 => ds.length < sizeLine ∧ lcU (S.blk scope) elt ifs i Γ (fun d Θ2 => D.nx (Γ.set j (some d)) Θ2) ds [] Θ1)
    (hs : ∀ (env : Env) (x : Value), foldedSetIterable it env x = pure x := by intro _ _; rfl) : ex1 S (.Assign [.Name y py] (.ListComp elt [⟨.Name x px, it, ifs, 0⟩] scope pos) spos) Γ Θ D := by
  have q := stoB_of hx
  have hN := hA.get
  refine ex1_setLc (g := gName i) [(x, i)] (fun ds n acc Θ2 => lcU (S.blk scope) elt ifs i Γ (fun d Θ2 => D.nx (Γ.set j (some d)) Θ2) (ds.drop n) acc Θ2) (ndB_of nd) hY.get hyl hsw ok hif
    (fun X o => pg_name (by rw [o.N]; exact ndB_of nd) (by rw [o.N]; exact hN) (o.loc q.1) (by rw [o.fn, o.sc]; exact q.2)) (fun σ H H1 R Q k => h σ H H1 R Q fun J ds H' H2 Θ' ⟨h1, h2⟩ => k J ds H' H2 Θ' ⟨h1, h2, ?_, ?_⟩) hs
  · intro n d acc Θ2 hd _ hq
    have e : ds.drop n = d :: ds.drop (n + 1) := by
      obtain ⟨hi, rfl⟩ := List.getElem?_eq_some_iff.mp hd
      exact List.drop_eq_getElem_cons hi
    rw [e] at hq
    exact ⟨_, tg_name (by simp) (ndB_of nd) hN q.1 q.2, hq⟩
  · intro acc Θ2 hq _
    rw [List.drop_length] at hq
    exact hq
/-! comprehensions over things that are told, turn by turn: one name or two, a list that changes no more or one that does -/
def lcT (S : Stat) (elt : Expr) (ifs : List Expr) (tg : Expr) (g : TG) (vs : List Nat) (Γ : Gam) (Fin : List Da → Sto → Prop) : List Da → List Da → Sto → Prop
  | [], acc, Θ => Fin acc Θ
  | d :: ds, acc, Θ => ∃ Γ1, TgOk S tg g d (wipeG Γ vs) Γ1 vs ∧ ets S ifs Γ1 Θ fun k Θ3 => if k = true then ev S elt Γ1 Θ3 fun y Θ4 => lcT S elt ifs tg g vs Γ Fin ds (acc ++ [y]) Θ4 else lcT S elt ifs tg g vs Γ Fin ds acc Θ3
def g2 (S : Stat) (i j : Nat) : TG := gTup S.K 2 (gCons (gName i) (gCons (gName j) gNil))
theorem hg1 {px : Pos} {i : Nat} (nd : ndB S.N = true) (hA : At S.N x i) (hx : stoB S.fn S.sc x = true) : ∀ X, Ok S X → L2.PG X (.Name x px) (gName i) := fun X o =>
  have q := stoB_of hx
  pg_name (by rw [o.N]; exact ndB_of nd) (by rw [o.N]; exact hA.get) (o.loc q.1) (by rw [o.fn, o.sc]; exact q.2)
theorem hg2 {px py pt : Pos} {kk i j : Nat} {y : Str} (nd : ndB S.N = true) (hA : At S.N x i) (hB : At S.N y j) (hx : stoB S.fn S.sc x = true) (hy : stoB S.fn S.sc y = true) : ∀ X, Ok S X → L2.PG X (.Tuple [.Name x px, .Name y py] kk pt) (g2 S i j) := fun X o =>
  have q := stoB_of hx
  have r := stoB_of hy
  by
  unfold g2
  rw [← o.K]
  exact pg_tup o.calm (pgs_cons (pg_name (by rw [o.N]; exact ndB_of nd) (by rw [o.N]; exact hA.get) (o.loc q.1) (by rw [o.fn, o.sc]; exact q.2)) (pgs_cons (pg_name (by rw [o.N]; exact ndB_of nd) (by rw [o.N]; exact hB.get) (o.loc r.1) (by rw [o.fn, o.sc]; exact r.2)) pgs_nil))
theorem lcT_nil {tg : Expr} {g : TG} {vs : List Nat} {Fin : List Da → Sto → Prop} {acc : List Da} (h : Fin acc Θ) : lcT S elt ifs tg g vs Γ Fin [] acc Θ := h
theorem lcT_one {px : Pos} {i : Nat} {vs : List Nat} {Fin : List Da → Sto → Prop} {d : Da} {ds acc : List Da} {Γ1 : Gam} {accf : Da → List Da} (nd : ndB S.N = true) (hA : At S.N x i) (hx : stoB S.fn S.sc x = true) (hv : (vs.contains i) = true) (hΓ : (wipeG Γ vs).set i (some d) = Γ1) (ha : ∀ y, acc ++ [y] = accf y)
    (h : ets S ifs Γ1 Θ fun k Θ3 => if k = true then ev S elt Γ1 Θ3 fun y Θ4 => lcT S elt ifs (.Name x px) (gName i) vs Γ Fin ds (accf y) Θ4 else lcT S elt ifs (.Name x px) (gName i) vs Γ Fin ds acc Θ3) : lcT S elt ifs (.Name x px) (gName i) vs Γ Fin (d :: ds) acc Θ := by
  have q := stoB_of hx
  unfold lcT
  simp only [ha]
  subst hΓ
  exact ⟨_, tg_name (by simpa using hv) (ndB_of nd) hA.get q.1 q.2, h⟩
theorem lcT_two {px py pt : Pos} {kk i j : Nat} {y : Str} {vs : List Nat} {Fin : List Da → Sto → Prop} {d1 d2 : Da} {ds acc : List Da} {Γ1 : Gam} {accf : Da → List Da} (nd : ndB S.N = true) (hA : At S.N x i) (hB : At S.N y j) (hx : stoB S.fn S.sc x = true) (hy : stoB S.fn S.sc y = true) (hv : (vs.contains i) = true) (hv2 : (vs.contains j) = true) (hΓ : ((wipeG Γ vs).set i (some d1)).set j (some d2) = Γ1) (ha : ∀ y, acc ++ [y] = accf y)
    (h : ets S ifs Γ1 Θ fun k Θ3 => if k = true then ev S elt Γ1 Θ3 fun z Θ4 => lcT S elt ifs (.Tuple [.Name x px, .Name y py] kk pt) (g2 S i j) vs Γ Fin ds (accf z) Θ4 else lcT S elt ifs (.Tuple [.Name x px, .Name y py] kk pt) (g2 S i j) vs Γ Fin ds acc Θ3) : lcT S elt ifs (.Tuple [.Name x px, .Name y py] kk pt) (g2 S i j) vs Γ Fin (.tup [d1, d2] :: ds) acc Θ := by
  have q := stoB_of hx
  have r := stoB_of hy
  unfold lcT
  simp only [ha]
  subst hΓ
  exact ⟨_, tg_two (by simpa using hv) (by simpa using hv2) (ndB_of nd) hA.get q.1 hB.get r.1 q.2 r.2, h⟩
theorem lcT_step {tg : Expr} {g : TG} {vs : List Nat} {Fin : List Da → Sto → Prop} {ds : List Da} : ∀ i x acc Θ2, ds[i]? = some x → acc.length ≤ i → lcT S elt ifs tg g vs Γ Fin (ds.drop i) acc Θ2 → ∃ Γ1, TgOk S tg g x (wipeG Γ vs) Γ1 vs ∧
      ets S ifs Γ1 Θ2 fun k Θ3 => if k = true then ev S elt Γ1 Θ3 fun y Θ4 => lcT S elt ifs tg g vs Γ Fin (ds.drop (i + 1)) (acc ++ [y]) Θ4 else lcT S elt ifs tg g vs Γ Fin (ds.drop (i + 1)) acc Θ3 := fun n d acc Θ2 hd _ hq => by
  have e : ds.drop n = d :: ds.drop (n + 1) := by
    obtain ⟨hi, rfl⟩ := List.getElem?_eq_some_iff.mp hd
    exact List.drop_eq_getElem_cons hi
  rw [e] at hq
  exact hq
theorem ev_lcT {tg : Expr} {scope : Scope} {g : TG} (own : List (Str × Nat)) (nd : ndB S.N = true) (hg : ∀ X, Ok (S.blk scope) X → L2.PG X tg g) (ok : blkC S.N S.sc scope own = true) (hif : ifs.length ≤ 1)
    (h : ei S tg it Γ Θ fun ds Θ1 => ds.length < sizeLine ∧ lcT (S.blk scope) elt ifs tg g (own.map (·.2)) Γ (fun acc Θ2 => Post (.lst acc) Θ2) ds [] Θ1)
    (hs : ∀ (env : Env) (x : Value), foldedSetIterable it env x = pure x := by intro _ _; rfl) : ev S (.ListComp elt [⟨tg, it, ifs, 0⟩] scope pos) Γ Θ Post :=
  ev_lc own (fun ds n acc Θ2 => lcT (S.blk scope) elt ifs tg g (own.map (·.2)) Γ (fun acc Θ2 => Post (.lst acc) Θ2) (ds.drop n) acc Θ2) (ndB_of nd) ok hif hg (fun σ H H1 R Q k => h σ H H1 R Q fun J ds H' H2 Θ' ⟨h1, h2⟩ => k J ds H' H2 Θ' ⟨h1, h2, lcT_step, fun acc Θ2 hq _ => by
    dsimp only at hq
    rw [List.drop_length] at hq
    exact hq⟩) hs
theorem ev_lcTM {tg : Expr} {scope : Scope} {g : TG} (own : List (Str × Nat)) (nd : ndB S.N = true) (hg : ∀ X, Ok (S.blk scope) X → L2.PG X tg g) (ok : blkC S.N S.sc scope own = true) (hif : ifs.length ≤ 1)
    (h : ei S tg it Γ Θ fun ds Θ1 => ds.length < sizeLine ∧ lcT (S.blk scope) elt ifs tg g (own.map (·.2)) Γ (fun acc Θ2 => ∀ D, Θ2 D = none → Post (.obj D) (updS Θ2 D (.lst acc))) ds [] Θ1)
    (hs : ∀ (env : Env) (x : Value), foldedSetIterable it env x = pure x := by intro _ _; rfl) : ev S (.ListComp elt [⟨tg, it, ifs, 0⟩] scope pos) Γ Θ Post :=
  ev_lcM own (fun ds n acc Θ2 => lcT (S.blk scope) elt ifs tg g (own.map (·.2)) Γ (fun acc Θ2 => ∀ D, Θ2 D = none → Post (.obj D) (updS Θ2 D (.lst acc))) (ds.drop n) acc Θ2) (ndB_of nd) ok hif hg (fun σ H H1 R Q k => h σ H H1 R Q fun J ds H' H2 Θ' ⟨h1, h2⟩ => k J ds H' H2 Θ' ⟨h1, h2, lcT_step, fun acc Θ2 hq _ => by
    dsimp only at hq
    rw [List.drop_length] at hq
    exact hq⟩) hs
theorem ex1_setLcT {y : Str} {py spos : Pos} {tg : Expr} {scope : Scope} {g : TG} {j : Nat} {D : DE} (own : List (Str × Nat)) (nd : ndB S.N = true) (hY : At S.N y j) (hyl : S.sc.names.lookup y = some .local) (hg : ∀ X, Ok (S.blk scope) X → L2.PG X tg g) (ok : blkC S.N S.sc scope own = true) (hif : ifs.length ≤ 1)
    (hsw : ∀ env : Env, env.scope = S.sc → swapsWith (.ListComp elt [⟨tg, it, ifs, 0⟩] scope pos) (some (.Name y py)) spos.line env = pure true)
    (h : ei S tg it Γ Θ fun ds Θ1 => ds.length < sizeLine ∧ lcT (S.blk scope) elt ifs tg g (own.map (·.2)) Γ (fun acc Θ2 => D.nx (Γ.set j (some (.lst acc))) Θ2) ds [] Θ1)
    (hs : ∀ (env : Env) (x : Value), foldedSetIterable it env x = pure x := by intro _ _; rfl) : ex1 S (.Assign [.Name y py] (.ListComp elt [⟨tg, it, ifs, 0⟩] scope pos) spos) Γ Θ D :=
  ex1_setLc own (fun ds n acc Θ2 => lcT (S.blk scope) elt ifs tg g (own.map (·.2)) Γ (fun acc Θ2 => D.nx (Γ.set j (some (.lst acc))) Θ2) (ds.drop n) acc Θ2) (ndB_of nd) hY.get hyl hsw ok hif hg (fun σ H H1 R Q k => h σ H H1 R Q fun J ds H' H2 Θ' ⟨h1, h2⟩ => k J ds H' H2 Θ' ⟨h1, h2, lcT_step, fun acc Θ2 hq _ => by
    dsimp only at hq
    rw [List.drop_length] at hq
    exact hq⟩) hs
theorem ex1_setLcTM {y : Str} {py spos : Pos} {tg : Expr} {scope : Scope} {g : TG} {j : Nat} {D : DE} (own : List (Str × Nat)) (nd : ndB S.N = true) (hY : At S.N y j) (hyl : S.sc.names.lookup y = some .local) (hg : ∀ X, Ok (S.blk scope) X → L2.PG X tg g) (ok : blkC S.N S.sc scope own = true) (hif : ifs.length ≤ 1)
    (hsw : ∀ env : Env, env.scope = S.sc → swapsWith (.ListComp elt [⟨tg, it, ifs, 0⟩] scope pos) (some (.Name y py)) spos.line env = pure true)
    (h : ei S tg it Γ Θ fun ds Θ1 => ds.length < sizeLine ∧ lcT (S.blk scope) elt ifs tg g (own.map (·.2)) Γ (fun acc Θ2 => ∀ q, Θ2 q = none → D.nx (Γ.set j (some (.obj q))) (updS Θ2 q (.lst acc))) ds [] Θ1)
    (hs : ∀ (env : Env) (x : Value), foldedSetIterable it env x = pure x := by intro _ _; rfl) : ex1 S (.Assign [.Name y py] (.ListComp elt [⟨tg, it, ifs, 0⟩] scope pos) spos) Γ Θ D :=
  ex1_setLcM own (fun ds n acc Θ2 => lcT (S.blk scope) elt ifs tg g (own.map (·.2)) Γ (fun acc Θ2 => ∀ q, Θ2 q = none → D.nx (Γ.set j (some (.obj q))) (updS Θ2 q (.lst acc))) (ds.drop n) acc Θ2) (ndB_of nd) hY.get hyl hsw ok hif hg (fun σ H H1 R Q k => h σ H H1 R Q fun J ds H' H2 Θ' ⟨h1, h2⟩ => k J ds H' H2 Θ' ⟨h1, h2, lcT_step, fun acc Θ2 hq _ => by
    dsimp only at hq
    rw [List.drop_length] at hq
    exact hq⟩) hs
theorem lcE1 {px : Pos} {i : Nat} {scope : Scope} (nd : ndB S.N = true) (hA : At S.N x i) (hx : stoB (S.blk scope).fn (S.blk scope).sc x = true) (ok : blkC S.N S.sc scope [(x, i)] = true) (hif : ifs.length ≤ 1)
    (h : ei S (.Name x px) it Γ Θ fun ds Θ1 => ds.length < sizeLine ∧ lcT (S.blk scope) elt ifs (.Name x px) (gName i) (([(x, i)] : List (Str × Nat)).map (·.2)) Γ (fun acc Θ2 => Post (.lst acc) Θ2) ds [] Θ1)
    (hs : ∀ (env : Env) (x : Value), foldedSetIterable it env x = pure x := by intro _ _; rfl) : ev S (.ListComp elt [⟨.Name x px, it, ifs, 0⟩] scope pos) Γ Θ Post := ev_lcT [(x, i)] nd (hg1 (S := S.blk scope) nd hA hx) ok hif h hs
theorem lcS1 {y : Str} {py spos : Pos} {px : Pos} {i : Nat} {scope : Scope} {j : Nat} {D : DE} (nd : ndB S.N = true) (hY : At S.N y j) (hyl : S.sc.names.lookup y = some .local) (hA : At S.N x i) (hx : stoB (S.blk scope).fn (S.blk scope).sc x = true) (ok : blkC S.N S.sc scope [(x, i)] = true) (hif : ifs.length ≤ 1)
    (hsw : ∀ env : Env, env.scope = S.sc → swapsWith (.ListComp elt [⟨.Name x px, it, ifs, 0⟩] scope pos) (some (.Name y py)) spos.line env = pure true)
    (h : ei S (.Name x px) it Γ Θ fun ds Θ1 => ds.length < sizeLine ∧ lcT (S.blk scope) elt ifs (.Name x px) (gName i) (([(x, i)] : List (Str × Nat)).map (·.2)) Γ (fun acc Θ2 => D.nx (Γ.set j (some (.lst acc))) Θ2) ds [] Θ1)
    (hs : ∀ (env : Env) (x : Value), foldedSetIterable it env x = pure x := by intro _ _; rfl) : ex1 S (.Assign [.Name y py] (.ListComp elt [⟨.Name x px, it, ifs, 0⟩] scope pos) spos) Γ Θ D := ex1_setLcT [(x, i)] nd hY hyl (hg1 (S := S.blk scope) nd hA hx) ok hif hsw h hs
theorem lcE1M {px : Pos} {i : Nat} {scope : Scope} (nd : ndB S.N = true) (hA : At S.N x i) (hx : stoB (S.blk scope).fn (S.blk scope).sc x = true) (ok : blkC S.N S.sc scope [(x, i)] = true) (hif : ifs.length ≤ 1)
    (h : ei S (.Name x px) it Γ Θ fun ds Θ1 => ds.length < sizeLine ∧ lcT (S.blk scope) elt ifs (.Name x px) (gName i) (([(x, i)] : List (Str × Nat)).map (·.2)) Γ (fun acc Θ2 => ∀ D, Θ2 D = none → Post (.obj D) (updS Θ2 D (.lst acc))) ds [] Θ1)
    (hs : ∀ (env : Env) (x : Value), foldedSetIterable it env x = pure x := by intro _ _; rfl) : ev S (.ListComp elt [⟨.Name x px, it, ifs, 0⟩] scope pos) Γ Θ Post := ev_lcTM [(x, i)] nd (hg1 (S := S.blk scope) nd hA hx) ok hif h hs
theorem lcS1M {y : Str} {py spos : Pos} {px : Pos} {i : Nat} {scope : Scope} {j : Nat} {D : DE} (nd : ndB S.N = true) (hY : At S.N y j) (hyl : S.sc.names.lookup y = some .local) (hA : At S.N x i) (hx : stoB (S.blk scope).fn (S.blk scope).sc x = true) (ok : blkC S.N S.sc scope [(x, i)] = true) (hif : ifs.length ≤ 1)
    (hsw : ∀ env : Env, env.scope = S.sc → swapsWith (.ListComp elt [⟨.Name x px, it, ifs, 0⟩] scope pos) (some (.Name y py)) spos.line env = pure true)
    (h : ei S (.Name x px) it Γ Θ fun ds Θ1 => ds.length < sizeLine ∧ lcT (S.blk scope) elt ifs (.Name x px) (gName i) (([(x, i)] : List (Str × Nat)).map (·.2)) Γ (fun acc Θ2 => ∀ q, Θ2 q = none → D.nx (Γ.set j (some (.obj q))) (updS Θ2 q (.lst acc))) ds [] Θ1)
    (hs : ∀ (env : Env) (x : Value), foldedSetIterable it env x = pure x := by intro _ _; rfl) : ex1 S (.Assign [.Name y py] (.ListComp elt [⟨.Name x px, it, ifs, 0⟩] scope pos) spos) Γ Θ D := ex1_setLcTM [(x, i)] nd hY hyl (hg1 (S := S.blk scope) nd hA hx) ok hif hsw h hs
theorem lcE2 {px qx pt : Pos} {kk i i2 : Nat} {z : Str} {scope : Scope} (nd : ndB S.N = true) (hA : At S.N x i) (hB : At S.N z i2) (hx : stoB (S.blk scope).fn (S.blk scope).sc x = true) (hz : stoB (S.blk scope).fn (S.blk scope).sc z = true) (ok : blkC S.N S.sc scope [(x, i), (z, i2)] = true) (hif : ifs.length ≤ 1)
    (h : ei S (.Tuple [.Name x px, .Name z qx] kk pt) it Γ Θ fun ds Θ1 => ds.length < sizeLine ∧ lcT (S.blk scope) elt ifs (.Tuple [.Name x px, .Name z qx] kk pt) (g2 (S.blk scope) i i2) (([(x, i), (z, i2)] : List (Str × Nat)).map (·.2)) Γ (fun acc Θ2 => Post (.lst acc) Θ2) ds [] Θ1)
    (hs : ∀ (env : Env) (x : Value), foldedSetIterable it env x = pure x := by intro _ _; rfl) : ev S (.ListComp elt [⟨.Tuple [.Name x px, .Name z qx] kk pt, it, ifs, 0⟩] scope pos) Γ Θ Post := ev_lcT [(x, i), (z, i2)] nd (hg2 (S := S.blk scope) nd hA hB hx hz) ok hif h hs
theorem lcS2 {y : Str} {py spos : Pos} {px qx pt : Pos} {kk i i2 : Nat} {z : Str} {scope : Scope} {j : Nat} {D : DE} (nd : ndB S.N = true) (hY : At S.N y j) (hyl : S.sc.names.lookup y = some .local) (hA : At S.N x i) (hB : At S.N z i2) (hx : stoB (S.blk scope).fn (S.blk scope).sc x = true) (hz : stoB (S.blk scope).fn (S.blk scope).sc z = true) (ok : blkC S.N S.sc scope [(x, i), (z, i2)] = true) (hif : ifs.length ≤ 1)
    (hsw : ∀ env : Env, env.scope = S.sc → swapsWith (.ListComp elt [⟨.Tuple [.Name x px, .Name z qx] kk pt, it, ifs, 0⟩] scope pos) (some (.Name y py)) spos.line env = pure true)
    (h : ei S (.Tuple [.Name x px, .Name z qx] kk pt) it Γ Θ fun ds Θ1 => ds.length < sizeLine ∧ lcT (S.blk scope) elt ifs (.Tuple [.Name x px, .Name z qx] kk pt) (g2 (S.blk scope) i i2) (([(x, i), (z, i2)] : List (Str × Nat)).map (·.2)) Γ (fun acc Θ2 => D.nx (Γ.set j (some (.lst acc))) Θ2) ds [] Θ1)
    (hs : ∀ (env : Env) (x : Value), foldedSetIterable it env x = pure x := by intro _ _; rfl) : ex1 S (.Assign [.Name y py] (.ListComp elt [⟨.Tuple [.Name x px, .Name z qx] kk pt, it, ifs, 0⟩] scope pos) spos) Γ Θ D := ex1_setLcT [(x, i), (z, i2)] nd hY hyl (hg2 (S := S.blk scope) nd hA hB hx hz) ok hif hsw h hs
theorem lcE2M {px qx pt : Pos} {kk i i2 : Nat} {z : Str} {scope : Scope} (nd : ndB S.N = true) (hA : At S.N x i) (hB : At S.N z i2) (hx : stoB (S.blk scope).fn (S.blk scope).sc x = true) (hz : stoB (S.blk scope).fn (S.blk scope).sc z = true) (ok : blkC S.N S.sc scope [(x, i), (z, i2)] = true) (hif : ifs.length ≤ 1)
    (h : ei S (.Tuple [.Name x px, .Name z qx] kk pt) it Γ Θ fun ds Θ1 => ds.length < sizeLine ∧ lcT (S.blk scope) elt ifs (.Tuple [.Name x px, .Name z qx] kk pt) (g2 (S.blk scope) i i2) (([(x, i), (z, i2)] : List (Str × Nat)).map (·.2)) Γ (fun acc Θ2 => ∀ D, Θ2 D = none → Post (.obj D) (updS Θ2 D (.lst acc))) ds [] Θ1)
    (hs : ∀ (env : Env) (x : Value), foldedSetIterable it env x = pure x := by intro _ _; rfl) : ev S (.ListComp elt [⟨.Tuple [.Name x px, .Name z qx] kk pt, it, ifs, 0⟩] scope pos) Γ Θ Post := ev_lcTM [(x, i), (z, i2)] nd (hg2 (S := S.blk scope) nd hA hB hx hz) ok hif h hs
theorem lcS2M {y : Str} {py spos : Pos} {px qx pt : Pos} {kk i i2 : Nat} {z : Str} {scope : Scope} {j : Nat} {D : DE} (nd : ndB S.N = true) (hY : At S.N y j) (hyl : S.sc.names.lookup y = some .local) (hA : At S.N x i) (hB : At S.N z i2) (hx : stoB (S.blk scope).fn (S.blk scope).sc x = true) (hz : stoB (S.blk scope).fn (S.blk scope).sc z = true) (ok : blkC S.N S.sc scope [(x, i), (z, i2)] = true) (hif : ifs.length ≤ 1)
    (hsw : ∀ env : Env, env.scope = S.sc → swapsWith (.ListComp elt [⟨.Tuple [.Name x px, .Name z qx] kk pt, it, ifs, 0⟩] scope pos) (some (.Name y py)) spos.line env = pure true)
    (h : ei S (.Tuple [.Name x px, .Name z qx] kk pt) it Γ Θ fun ds Θ1 => ds.length < sizeLine ∧ lcT (S.blk scope) elt ifs (.Tuple [.Name x px, .Name z qx] kk pt) (g2 (S.blk scope) i i2) (([(x, i), (z, i2)] : List (Str × Nat)).map (·.2)) Γ (fun acc Θ2 => ∀ q, Θ2 q = none → D.nx (Γ.set j (some (.obj q))) (updS Θ2 q (.lst acc))) ds [] Θ1)
    (hs : ∀ (env : Env) (x : Value), foldedSetIterable it env x = pure x := by intro _ _; rfl) : ex1 S (.Assign [.Name y py] (.ListComp elt [⟨.Tuple [.Name x px, .Name z qx] kk pt, it, ifs, 0⟩] scope pos) spos) Γ Θ D := ex1_setLcTM [(x, i), (z, i2)] nd hY hyl (hg2 (S := S.blk scope) nd hA hB hx hz) ok hif hsw h hs
/-- all elements alike: what is let through, made anew -/
theorem lcT_fm {px : Pos} {i : Nat} {vs : List Nat} {Fin : List Da → Sto → Prop} {Γf : Da → Gam} (f : Da → Option Da) (nd : ndB S.N = true) (hA : At S.N x i) (hx : stoB S.fn S.sc x = true) (hv : (vs.contains i) = true) (hΓ : ∀ d, (wipeG Γ vs).set i (some d) = Γf d) : ∀ {ds acc : List Da},
    (∀ d, d ∈ ds → ets S ifs (Γf d) Θ fun k Θ3 => if k = true then ev S elt (Γf d) Θ3 fun y Θ4 => Θ4 = Θ ∧ f d = some y else Θ3 = Θ ∧ f d = none) → Fin (acc ++ ds.filterMap f) Θ → lcT S elt ifs (.Name x px) (gName i) vs Γ Fin ds acc Θ := by
  intro ds
  induction ds with
  | nil =>
    intro acc _ hf
    rw [List.filterMap_nil, List.append_nil] at hf
    exact hf
  | cons d ds ih =>
    intro acc h hf
    refine lcT_one nd hA hx hv (hΓ d) (fun _ => rfl) (ets_imp (h d (List.mem_cons_self ..)) fun k Θ3 hk => ?_)
    cases k with
    | true =>
      rw [if_pos rfl] at hk ⊢
      refine hk.imp fun y Θ4 ⟨e1, e2⟩ => ?_
      subst e1
      exact ih (fun d hd => h d (List.mem_cons_of_mem _ hd)) (by rw [List.filterMap_cons, e2] at hf; simpa using hf)
    | false =>
      rw [if_neg Bool.false_ne_true] at hk ⊢
      obtain ⟨e1, e2⟩ := hk
      subst e1
      exact ih (fun d hd => h d (List.mem_cons_of_mem _ hd)) (by rw [List.filterMap_cons, e2] at hf; exact hf)
/-! dicts with tuples for keys -/
def unK : Da → Key
  | .int i => .inl i
  | .str x => .inr x
  | _ => .inl 0
theorem ex1_dputA {D : DE} {o i value : Expr} {pos' : Pos} (h : ev S value Γ Θ fun d Θ1 => ev S o Γ Θ1 fun x Θ2 => ev S i Γ Θ2 fun y Θ3 => ∃ q kvs ds, x = .obj q ∧ Θ3 q = some (.dT kvs) ∧ y = .tup ds ∧ (ds.map unK).map kD = ds ∧ kvs.length < sizeLine ∧ D.nx Γ (updS Θ3 q (.dT (putD kvs (ds.map unK) d))))
    (hs : ∀ env : Env, swapsWith value (some (.Subscript o i pos')) pos.line env = pure false := by intro _; rfl) : ex1 S (.Assign [.Subscript o i pos'] value pos) Γ Θ D :=
  ex1_dput (h.imp fun d Θ1 h1 => h1.imp fun x Θ2 h2 => h2.imp fun y Θ3 ⟨q, kvs, ds, e1, e2, e3, e4, e5, e6⟩ => ⟨q, kvs, ds.map unK, e1, e2, by rw [e4]; exact e3, e5, e6⟩) hs
theorem putD_new {kvs : List (List Key × Da)} {k : List Key} {d : Da} (h : (kvs.any fun kv => decide (kv.1 = k)) = false) : putD kvs k d = kvs ++ [(k, d)] := by
  unfold putD
  rw [h]
  rfl
/-- .. a new key -/
theorem ex1_dputN {D : DE} {o i value : Expr} {pos' : Pos} (h : ev S value Γ Θ fun d Θ1 => ev S o Γ Θ1 fun x Θ2 => ev S i Γ Θ2 fun y Θ3 => ∃ q kvs ds kvs2, x = .obj q ∧ Θ3 q = some (.dT kvs) ∧ y = .tup ds ∧ (ds.map unK).map kD = ds ∧ (kvs.any fun kv => decide (kv.1 = ds.map unK)) = false ∧ kvs ++ [(ds.map unK, d)] = kvs2 ∧ kvs.length < sizeLine ∧ D.nx Γ (updS Θ3 q (.dT kvs2)))
    (hs : ∀ env : Env, swapsWith value (some (.Subscript o i pos')) pos.line env = pure false := by intro _; rfl) : ex1 S (.Assign [.Subscript o i pos'] value pos) Γ Θ D :=
  ex1_dputA (h.imp fun d Θ1 h1 => h1.imp fun x Θ2 h2 => h2.imp fun y Θ3 ⟨q, kvs, ds, kvs2, e1, e2, e3, e4, e5, e6, e7, e8⟩ => ⟨q, kvs, ds, e1, e2, e3, e4, e7, by rw [putD_new e5, e6]; exact e8⟩) hs
theorem ev_dgetA (hns : NoSl b) (h : ev S a Γ Θ fun x Θ1 => ev S b Γ Θ1 fun y Θ2 => ∃ q kvs ds d, x = .obj q ∧ Θ2 q = some (.dT kvs) ∧ y = .tup ds ∧ (ds.map unK).map kD = ds ∧ valD kvs (ds.map unK) = some d ∧ Post d Θ2) : ev S (.Subscript a b pos) Γ Θ Post :=
  ev_dget (fun _ _ => hns) (h.imp fun x Θ1 h1 => h1.imp fun y Θ2 ⟨q, kvs, ds, d, e1, e2, e3, e4, e5, e6⟩ => ⟨q, kvs, ds.map unK, d, e1, e2, by rw [e4]; exact e3, e5, e6⟩)
/-! append, extend -/
theorem ev_app {apos : Pos} (hline : (apos.endLine == pos.line) = true) (h : ev S a Γ Θ fun x Θ1 => ∃ q ds0, x = .obj q ∧ Θ1 q = some (.lst ds0) ∧ ev S e Γ Θ1 fun d Θ2 => ∃ ds, Θ2 q = some (.lst ds) ∧ ds.length < sizeLine ∧ Post .non (updS Θ2 q (.lst (ds ++ [d]))))
    (hbase : ∀ env : Env, attributeBase a "append" env (eval a env) = eval a env := by intro _; rfl) (hs : NoStar e := by intro _ _; rfl)
    (hfew : ∀ env : Env, ((backTo pos (starEach [e] env)).all (fun x => !x.1) && (backToKw pos (keywordEach [] env)).all (fun x => x.1.isSome) && decide ([e].length + ([] : List Keyword).length + (if ([] : List Keyword).isEmpty then 0 else 1) < 30)) = true := by intro _; rfl) : ev S (.Call (.Attribute a "append" apos) [e] [] pos) Γ Θ Post :=
  ev_append h hs fun X o => pe_app o (hs _ _) (pe_bm PySem.F.plainAttrs_list PySem.F.slot_list_append PySem.F.type_list_append mt_append (w_e o a) (w_a o [e]) (hbase _) (hfew _) hline (hs _ _) rfl)
/-- xs.extend(a list that changes no more) -/
theorem ev_extL {apos : Pos} (hline : (apos.endLine == pos.line) = true) (h : ev S a Γ Θ fun x Θ1 => ∃ q ds0, x = .obj q ∧ Θ1 q = some (.lst ds0) ∧ ev S e Γ Θ1 fun d Θ2 => ∃ ds es', d = .lst es' ∧ Θ2 q = some (.lst ds) ∧ ds.length + es'.length ≤ sizeLine ∧ Post .non (updS Θ2 q (.lst (ds ++ es'))))
    (hbase : ∀ env : Env, attributeBase a "extend" env (eval a env) = eval a env := by intro _; rfl) (hs : NoStar e := by intro _ _; rfl)
    (hfew : ∀ env : Env, ((backTo pos (starEach [e] env)).all (fun x => !x.1) && (backToKw pos (keywordEach [] env)).all (fun x => x.1.isSome) && decide ([e].length + ([] : List Keyword).length + (if ([] : List Keyword).isEmpty then 0 else 1) < 30)) = true := by intro _; rfl) : ev S (.Call (.Attribute a "extend" apos) [e] [] pos) Γ Θ Post :=
  ev_mk (fun X o => pe_ext o (pe_bm PySem.F.plainAttrs_list PySem.F.slot_list_extend PySem.F.type_list_extend mt_extend (w_e o a) (w_a o [e]) (hbase _) (hfew _) hline (hs _ _) rfl)) fun σ H H1 R Q k => h σ H H1 R _ fun v d H' H2 Θ1 ⟨q, ds0, ed, hq, h2⟩ f R' r => by
    subst ed
    cases r
    refine ⟨ty_lst R' hq, ea1 h2 hs σ H' H2 R' _ fun vs xs H'' H3 Θ2 ⟨d, ed, ds, es', e2, hq2, hl, po⟩ f2 R2 rs => ?_⟩
    subst ed e2
    cases rs with
    | cons r1 r2 =>
      cases r2
      obtain ⟨_, ws, e, rw_⟩ := R2.sto q _ hq2
      cases r1 with
      | @lst q2 ws2 _ s2 rw2 =>
        refine ⟨q, q2, ws, ws2, rfl, rfl, e, R2.ex _ _ s2, by rw [rw_.length, rw2.length]; exact hl, k _ _ _ _ _ po ((f.trans R' f2).trans R2 (Fr.chg hq2)) (R2.chg hq2 ⟨_, upd_same, rw_.append rw2⟩) .non⟩
theorem lcT_drop {tg : Expr} {scope : Scope} {g : TG} {vs : List Nat} {Fin : PoE} {ds : List Da} {Θ1 : Sto} (hl : ds.length < sizeLine) (h : lcT (S.blk scope) elt ifs tg g vs Γ (fun acc Θ2 => Fin (.lst acc) Θ2) ds [] Θ1) :
    CompI S tg elt ifs scope g vs Γ (fun ds n acc Θ2 => lcT (S.blk scope) elt ifs tg g vs Γ (fun acc Θ2 => Fin (.lst acc) Θ2) (ds.drop n) acc Θ2) Fin ds Θ1 := ⟨hl, h, lcT_step, fun acc Θ2 hq _ => by
    dsimp only at hq
    rw [List.drop_length] at hq
    exact hq⟩
/-- over d.values() -/
theorem ev_lcV1 {y : Str} {scope : Scope} {apos cpos px pz : Pos} {q : Addr} {kvs : List (List Key × Da)} {i k : Nat} (hq : Θ q = some (.dT kvs)) (nd : ndB S.N = true) (hY : At S.N y i) (hv : visB S.sc y = true) (hi : Γ[i]? = some (some (.obj q))) (hA : At S.N x k) (hx : stoB (S.blk scope).fn (S.blk scope).sc x = true)
    (ok : blkC S.N S.sc scope [(x, k)] = true) (hif : ifs.length ≤ 1) (hline : (apos.endLine == cpos.line) = true)
    (h : (kvs.map (·.2)).length < sizeLine ∧ lcT (S.blk scope) elt ifs (.Name x px) (gName k) (([(x, k)] : List (Str × Nat)).map (·.2)) Γ (fun acc Θ2 => Post (.lst acc) (updS Θ2 q (.dT kvs))) (kvs.map (·.2)) [] (delS Θ q)) :
    ev S (.ListComp elt [⟨.Name x px, .Call (.Attribute (.Name y pz) "values" apos) [] [] cpos, ifs, 0⟩] scope pos) Γ Θ Post :=
  have z := visB_of hv
  ev_lcV i [(x, k)] _ (ndB_of nd) hY.get z.1 hi hq ok hif (hg1 nd hA hx) (lcT_drop (Fin := fun d Θ' => Post d (updS Θ' q (.dT kvs))) h.1 h.2) hline z.2.1 z.2.2
theorem ex1_setLcV1 {y u : Str} {scope : Scope} {apos cpos px pz pu spos : Pos} {q : Addr} {kvs : List (List Key × Da)} {i j k : Nat} {D : DE} (hq : Θ q = some (.dT kvs)) (nd : ndB S.N = true) (hY : At S.N y i) (hv : visB S.sc y = true) (hi : Γ[i]? = some (some (.obj q))) (hU : At S.N u j) (hul : S.sc.names.lookup u = some .local) (hA : At S.N x k) (hx : stoB (S.blk scope).fn (S.blk scope).sc x = true)
    (ok : blkC S.N S.sc scope [(x, k)] = true) (hif : ifs.length ≤ 1) (hline : (apos.endLine == cpos.line) = true)
    (hsw : ∀ env : Env, env.scope = S.sc → swapsWith (.ListComp elt [⟨.Name x px, .Call (.Attribute (.Name y pz) "values" apos) [] [] cpos, ifs, 0⟩] scope pos) (some (.Name u pu)) spos.line env = pure true)
    (h : (kvs.map (·.2)).length < sizeLine ∧ lcT (S.blk scope) elt ifs (.Name x px) (gName k) (([(x, k)] : List (Str × Nat)).map (·.2)) Γ (fun acc Θ2 => D.nx (Γ.set j (some (.lst acc))) (updS Θ2 q (.dT kvs))) (kvs.map (·.2)) [] (delS Θ q)) :
    ex1 S (.Assign [.Name u pu] (.ListComp elt [⟨.Name x px, .Call (.Attribute (.Name y pz) "values" apos) [] [] cpos, ifs, 0⟩] scope pos) spos) Γ Θ D :=
  have z := visB_of hv
  ex1_setLcV i j [(x, k)] _ (ndB_of nd) hY.get z.1 hi hq hU.get hul hsw ok hif (hg1 nd hA hx) (lcT_drop (Fin := fun d Θ' => D.nx (Γ.set j (some d)) (updS Θ' q (.dT kvs))) h.1 h.2) hline z.2.1 z.2.2
/-! promises of defs that store nothing -/
abbrev pureSp (R : List Da → Da → Prop) : SpD := fun ds Θ Post => ∃ d, R ds d ∧ Post d Θ
theorem mono_pure (R : List Da → Da → Prop) : Mono (pureSp R) := fun _ _ _ _ q ⟨d, r, h⟩ => ⟨d, r, q _ _ h⟩
theorem fin {Post : PoE} {d : Da} (h : Post d Θ) : retD Post d Θ := .inl ⟨_, LeS.refl _, h⟩
/-- a list of its own that is given back -/
theorem finF {Post : PoE} {q : Addr} {ds : List Da} (hq : Θ q = none) (h : Post (.lst ds) Θ) : retD Post (.obj q) (updS Θ q (.lst ds)) := .inr ⟨q, ds, rfl, updS_same, Θ, by rw [delS_updS hq]; exact LeS.refl _, h⟩
theorem finN {Post : PoE} (h : Post .non Θ) : ∃ Θ'', LeS Θ'' Θ ∧ Post .non Θ'' := ⟨_, LeS.refl _, h⟩
end
/-- no more than that many bits -/
def Bd (n : Nat) (i : Int) : Prop := i.natAbs < 2 ^ n
theorem bd_mul {a b : Int} {m n : Nat} (ha : Bd m a) (hb : Bd n b) : Bd (m + n) (a * b) := by
  unfold Bd at *
  rw [Int.natAbs_mul, Nat.pow_add]
  exact Nat.mul_lt_mul'' ha hb
theorem bd_add {a b : Int} {n : Nat} (ha : Bd n a) (hb : Bd n b) : Bd (n + 1) (a + b) := by
  unfold Bd at *
  rw [Nat.pow_succ]
  omega
theorem bd_le {a : Int} {m n : Nat} (ha : Bd m a) (h : m ≤ n) : Bd n a := Nat.lt_of_lt_of_le ha (Nat.pow_le_pow_right (by decide) h)
theorem mulB {a b : Int} {m n : Nat} (ha : Bd m a) (hb : Bd n b) (h : m + n < 900000 := by decide) : CMulW a b := by
  have q : ∀ (x : Int) (k : Nat), Bd k x → x.natAbs.log2 ≤ k := fun x k h => by
    by_cases z : x.natAbs = 0
    · rw [z]; exact Nat.zero_le _
    · exact Nat.le_of_lt ((Nat.log2_lt z).mpr h)
  have := q a m ha
  have := q b n hb
  unfold CMulW
  omega
theorem div2 (x : Int) : CDivZ x 2 := ⟨by decide, by decide⟩
end Z
/-! ZHead: a head's facts by one look of our own (a Bool over the written part) and the defs. -/
namespace Z
open PySem PySem.Spec PyProof.Rows L2 He
def obsX (chk : Frag → Bool) (fn : List DefD) (K : Frag) : AlD := (chk K && fn.all fun d => d.ok K, fn.map fun d => fnW K d.at_)
def SaysX (chk : Frag → Bool) (fn : List DefD) (K : Frag) : Prop := obsX chk fn K = He.valD fn
def obsXG (n : Nat) (chk : Frag → Bool) (fn : List DefD) (g : Addr → Option Obj) : AlD := obsX chk fn (frG g (asD g n))
def hookX (n : Nat) (chk : Frag → Bool) (fn : List DefD) : PySem.W.Hook where
  α := AlD
  obs := fun s => obsXG n chk fn s.heap.get?
  val := fun _ => He.valD fn
  says := fun _ h => ∃ K : Frag, K.In h ∧ SaysX chk fn K
  of := fun _ _ e => ⟨_, frG_in, e⟩
  keeps := fun _ _ _ ⟨K, hK, c⟩ k => ⟨K, PySem.W.Frag.In.keeps hK k, c⟩
theorem obsXG_eq {n : Nat} {chk : Frag → Bool} {fn : List DefD} {g : Addr → Option Obj} {s : Shared} (h : ∀ a, g a = s.heap.get? a) : obsXG n chk fn g = (hookX n chk fn).obs s := by
  have e : g = s.heap.get? := funext h
  rw [e] <;> rfl
section
variable {chk : Frag → Bool} {fn : List DefD} {K : Frag}
theorem SaysX.looks (c : SaysX chk fn K) : chk K = true := (ba (show (chk K && fn.all fun d => d.ok K) = true from congrArg (fun z : AlD => z.1) c)).1
theorem SaysX.def_ (c : SaysX chk fn K) (i : Nat) {d : DefD} (h : fn[i]? = some d := by rfl) : ∃ fd, FunD K d.name d.qual d.params d.body d.scope (d.dvs K) (d.kws K) (fAd K d.at_) fd := by
  have c2 := (ba (show (chk K && fn.all fun d => d.ok K) = true from congrArg (fun z : AlD => z.1) c)).2
  have e : fn.map (fun d => fnW K d.at_) = fn.map DefD.val := congrArg (fun z : AlD => z.2) c
  have e2 : (fn.map fun d => fnW K d.at_)[i]? = (fn.map DefD.val)[i]? := by rw [e]
  rw [List.getElem?_map, List.getElem?_map, h] at e2
  exact DefD.funD (Option.some.inj e2) (List.all_eq_true.mp c2 d (List.mem_of_getElem? h))
end
/-- C() without an __init__ of its own -/
def mk0B (K : Frag) (C : Addr) : Bool := PySem.W.makesIn K C && (eqO (PySem.W.findIn K (.ref C) "__init__") (some (some (.builtin "object.__init__"))) && PySem.W.keepIn K (.ref C))
theorem mk0_ok {K : Frag} {C : Addr} (h : mk0B K C = true) : Mk0 K C := by
  obtain ⟨h1, h2⟩ := ba h
  obtain ⟨h2, h3⟩ := ba h2
  exact ⟨h1, eqO_ok h2, h3⟩
/-- all of some facts -/
theorem all_fact {l : List Fa} {K : Frag} (h : (l.all fun f => f.ok K) = true) {f : Fa} (m : f ∈ l) : f.ok K = true := List.all_eq_true.mp h f m
end Z
/-! ZShow: how long what repr writes can be. -/
namespace Z
open PySem PySem.Spec PyProof.Rows L2
structure Sh (n N : Nat) (d : PyData) : Prop where
  sw : d.showable = true
  nd : d.hasDict = false
  dp : d.depth ≤ n
  ln : d.shown.length ≤ N
theorem Sh.le {n N m M : Nat} {d : PyData} (h : Sh n N d) (h1 : n ≤ m) (h2 : N ≤ M) : Sh m M d := ⟨h.sw, h.nd, Nat.le_trans h.dp h1, Nat.le_trans h.ln h2⟩
theorem sh_int {i : Int} (h : Bd 1900 i) : Sh 0 1902 (.int i) where
  sw := by
    rw [PyData.showable]
    refine decide_eq_true ?_
    by_cases z : i.natAbs = 0
    · rw [z]; decide
    · exact Nat.lt_of_lt_of_le ((Nat.log2_lt z).mpr h) (by decide)
  nd := by rw [PyData.hasDict]
  dp := by rw [PyData.depth]; exact Nat.zero_le _
  ln := by
    rw [PyData.shown]
    show (Str.ofString (toString i)).length ≤ 1902
    rw [PySem.ofString_length]
    have : (toString i).length ≤ 1901 + 1 := int_text_length_le (by decide) (by
      by_cases z : i.natAbs = 0
      · rw [z]; decide
      · exact Nat.lt_of_lt_of_le ((Nat.log2_lt z).mpr h) (by decide))
    exact this
theorem sh_bl {b : Bool} : Sh 0 5 (.bool b) where
  sw := by rw [PyData.showable]
  nd := by rw [PyData.hasDict]
  dp := by rw [PyData.depth]; exact Nat.zero_le _
  ln := by
    rw [PyData.shown]
    cases b <;> decide
theorem piled_le {N : Nat} : ∀ {ts : List Str}, (∀ t, t ∈ ts → t.length ≤ N) → piled ts ≤ ts.length * (N + 2)
  | [], _ => by simp [piled]
  | t :: ts, h => by
    have a := h t (List.mem_cons_self ..)
    have b := piled_le (ts := ts) fun u hu => h u (List.mem_cons_of_mem _ hu)
    rw [piled_cons, List.length_cons, Nat.succ_mul]
    omega
theorem textFrom_le : ∀ (ts : List Str) (k : Nat) (acc : Str), (textFrom k acc ts).length ≤ acc.length + piled ts
  | [], k, acc => by simp [textFrom, piled]
  | t :: r, k, acc => by
    have h := textFrom_le r (k + 1) (acc ++ (if k > 0 then ", " else "" : String) ++ t)
    have e : (acc ++ (if k > 0 then ", " else "" : String) ++ t).length ≤ acc.length + 2 + t.length := by
      rw [strLen_append, strLen_append]
      split
      · exact Nat.le_refl _
      · have e2 : ((("" : String) : Str)).length = 0 := rfl
        rw [e2]
        omega
    rw [piled_cons]
    show (textFrom (k + 1) _ r).length ≤ _
    omega
theorem sh_all {n N : Nat} : ∀ {ds : List PyData}, (∀ d, d ∈ ds → Sh n N d) → PyData.showableAll ds = true ∧ PyData.hasDictAll ds = false ∧ PyData.depthAll ds ≤ n ∧ (PyData.shownAll ds).length = ds.length ∧ ∀ t, t ∈ PyData.shownAll ds → t.length ≤ N
  | [], _ => by simp [PyData.showableAll, PyData.hasDictAll, PyData.depthAll, PyData.shownAll]
  | d :: ds, h => by
    have a := h d (List.mem_cons_self ..)
    obtain ⟨b1, b2, b3, b4, b5⟩ := sh_all (ds := ds) fun x hx => h x (List.mem_cons_of_mem _ hx)
    refine ⟨by rw [PyData.showableAll, a.sw, b1]; rfl, by rw [PyData.hasDictAll, a.nd, b2]; rfl, ?_, ?_, ?_⟩
    · rw [PyData.depthAll]
      have := a.dp
      omega
    · rw [PyData.shownAll, List.length_cons, List.length_cons, b4]
    · rw [PyData.shownAll]
      intro t ht
      rcases List.mem_cons.mp ht with rfl | ht
      · exact a.ln
      · exact b5 t ht
theorem sh_list {n N k : Nat} {ds : List PyData} (hl : ds.length ≤ k) (h : ∀ d, d ∈ ds → Sh n N d) : Sh (n + 1) (k * (N + 2) + 2) (.list ds) := by
  obtain ⟨b1, b2, b3, b4, b5⟩ := sh_all h
  refine ⟨by rw [PyData.showable]; exact b1, by rw [PyData.hasDict]; exact b2, by rw [PyData.depth]; omega, ?_⟩
  rw [PyData.shown]
  unfold listText
  rw [strLen_append]
  have h1 := textFrom_le (PyData.shownAll ds) 0 "["
  have h2 := piled_le b5
  rw [b4] at h2
  have h3 : ds.length * (N + 2) ≤ k * (N + 2) := Nat.mul_le_mul_right _ hl
  have e1 : ((("[" : String) : Str)).length = 1 := rfl
  have e2 : ((("]" : String) : Str)).length = 1 := rfl
  omega
theorem sh_tup {n N k : Nat} {ds : List PyData} (hl : ds.length ≤ k) (h : ∀ d, d ∈ ds → Sh n N d) : Sh (n + 1) (k * (N + 2) + 3) (.tuple ds) := by
  obtain ⟨b1, b2, b3, b4, b5⟩ := sh_all h
  refine ⟨by rw [PyData.showable]; exact b1, by rw [PyData.hasDict]; exact b2, by rw [PyData.depth]; omega, ?_⟩
  rw [PyData.shown]
  unfold tupleText
  rw [strLen_append, strLen_append]
  have h2 := piled_le b5
  rw [b4] at h2
  have h3 : ds.length * (N + 2) ≤ k * (N + 2) := Nat.mul_le_mul_right _ hl
  have h4 : (Str.join ", " (PyData.shownAll ds)).length ≤ piled (PyData.shownAll ds) := by
    by_cases z : PyData.shownAll ds = []
    · rw [z]; exact Nat.zero_le _
    · have := join_length_add _ z
      omega
  have e1 : ((("(" : String) : Str)).length = 1 := rfl
  have e2 : ((if (PyData.shownAll ds).length == 1 then ",)" else ")" : String) : Str).length ≤ 2 := by
    split
    · exact Nat.le_refl _
    · have e2 : (((")" : String) : Str)).length = 1 := rfl
      rw [e2]; omega
  omega
/-- what stands behind a statement, said once -/
theorem ex1_seq {S : Stat} {st : Stmt} {Γ : Gam} {Θ : Sto} {D : DE} (N : Gam → Sto → Prop) (h : ex1 S st Γ Θ { D with nx := N }) (k : ∀ Γ' Θ', N Γ' Θ' → D.nx Γ' Θ') : ex1 S st Γ Θ D := fun σ H H1 R E hk =>
  h σ H H1 R E ⟨fun σ' Γ' H' H2 Θ' q f R' => hk.nx σ' Γ' H' H2 Θ' (k _ _ q) f R', hk.rt, hk.bk, hk.ct⟩
end Z
namespace Z
open PySem PySem.Spec PyProof.Rows L2
/-! data of no great depth -/
def shpN (n : Nat) (d : PyData) : Prop := d.canLay0 = true ∧ d.depth ≤ n
theorem shp_int {n : Nat} {i : Int} : shpN n (.int i) := ⟨by simp [PyData.canLay0], by simp [PyData.depth]⟩
theorem shp_all {n : Nat} : ∀ {ds : List PyData}, (∀ d, d ∈ ds → shpN n d) → PyData.canLayAll0 ds = true ∧ PyData.depthAll ds ≤ n
  | [], _ => ⟨by simp [PyData.canLayAll0], by simp [PyData.depthAll]⟩
  | d :: ds, h => by
    obtain ⟨a, b⟩ := h d (List.mem_cons_self ..)
    obtain ⟨c, e⟩ := shp_all (ds := ds) fun x hx => h x (List.mem_cons_of_mem _ hx)
    exact ⟨by rw [PyData.canLayAll0, a, c]; rfl, by rw [PyData.depthAll]; omega⟩
theorem shp_list {n : Nat} {ds : List PyData} (h : ∀ d, d ∈ ds → shpN n d) : shpN (n + 1) (.list ds) := by
  obtain ⟨a, b⟩ := shp_all h
  exact ⟨by rw [PyData.canLay0]; exact a, by rw [PyData.depth]; omega⟩
theorem shp_tup {n : Nat} {ds : List PyData} (h : ∀ d, d ∈ ds → shpN n d) : shpN (n + 1) (.tuple ds) := by
  obtain ⟨a, b⟩ := shp_all h
  exact ⟨by rw [PyData.canLay0]; exact a, by rw [PyData.depth]; omega⟩
theorem shaped_by {n : Nat} {d : PyData} (h : shpN n d) (hn : n ≤ 64 := by decide) : SeqAt.shaped d = true := by
  unfold SeqAt.shaped
  rw [h.1, decide_eq_true (by have := h.2; omega)]
  rfl
theorem toPs_map {α : Type} {f : α → Da} {g : α → PyData} (h : ∀ x, toP (f x) = some (g x)) : ∀ l : List α, toPs (l.map f) = some (l.map g)
  | [] => by rw [List.map_nil, toPs]; rfl
  | x :: l => by rw [List.map_cons, toPs, h x, toPs_map h l]; rfl
theorem eqv_nil : ∀ ds : List PyData, PyData.eqv (.list ds) (.list []) = ds.isEmpty
  | [] => by simp [PyData.eqv, PyData.eqvAll]
  | d :: ds => by simp [PyData.eqv, PyData.eqvAll]
theorem ex1_asgSS {S : Stat} {e : Expr} {Γ : Gam} {Θ : Sto} {pos : Pos} {tg : Expr} {D : DE} (hs : ∀ env : Env, env.scope = S.sc → swapsWithSole [tg] e pos.line env = pure false) (hw : ∀ env : Env, env.scope = S.sc → swappedStores [tg] e env = pure none) (h : ev S e Γ Θ fun d Θ1 => eg S tg d Γ Θ1 D.nx) (h1 : PlainTg tg := by intro _ _; rfl) : ex1 S (.Assign [tg] e pos) Γ Θ D :=
  ex1_mk (fun X o => ps_asg (w_e o e) (w_g o tg) (hs _ o.sc) (hw _ o.sc) (h1 [] _)) fun σ H H1 R E k => h σ H H1 R _ fun v d H' H2 Θ1 g f R' r => g σ H' H2 v R' r _ fun σ' Γ' H'' H3 Θ2 p f2 R2 => k.nx _ _ _ _ _ p (f.trans R' f2) R2
end Z
namespace Z
open PySem PySem.Spec PyProof.Rows L2
theorem eo_none {S : Stat} {Γ : Gam} {Θ : Sto} {P : Option Int → Sto → Prop} (h : P none Θ) : eo S none Γ Θ P := h
theorem eo_some {S : Stat} {e : Expr} {Γ : Gam} {Θ : Sto} {P : Option Int → Sto → Prop} (h : ev S e Γ Θ fun x Θ1 => ∃ i, x = .int i ∧ P (some i) Θ1) : eo S (some e) Γ Θ P := h
def RepOk (n : Nat) (k : Int) : Prop := -(2 ^ 63) ≤ k ∧ k < 2 ^ 63 ∧ n * k.toNat ≤ sizeLine
theorem ev_repZ {S : Stat} {a b : Expr} {pos : Pos} {Γ : Gam} {Θ : Sto} {Post : PoE} (h : ev S a Γ Θ fun x Θ1 => ev S b Γ Θ1 fun y Θ2 => ∃ ds k, x = .lst ds ∧ y = .int k ∧ RepOk ds.length k ∧ Post (.lst (List.replicate k.toNat ds).flatten) Θ2) : ev S (.BinOp a .Mult b pos) Γ Θ Post :=
  ev_rep (h.imp fun x Θ1 h1 => h1.imp fun y Θ2 ⟨ds, k, e1, e2, ⟨r1, r2, r3⟩, p⟩ => ⟨ds, k, .inl e1, e2, r1, r2, r3, p⟩)
def CatOk (n m : Nat) : Prop := n + m ≤ sizeLine
theorem ev_catZ {S : Stat} {a b : Expr} {pos : Pos} {Γ : Gam} {Θ : Sto} {Post : PoE} (h : ev S a Γ Θ fun x Θ1 => ev S b Γ Θ1 fun y Θ2 => ∃ ds es', x = .lst ds ∧ y = .lst es' ∧ CatOk ds.length es'.length ∧ Post (.lst (ds ++ es')) Θ2) : ev S (.BinOp a .Add b pos) Γ Θ Post :=
  ev_cat (h.imp fun x Θ1 h1 => h1.imp fun y Θ2 ⟨ds, es', e1, e2, r, p⟩ => ⟨ds, es', .inl e1, .inl e2, r, p⟩)
end Z
set_option autoImplicit true
namespace K95
open PySem PySem.Spec PyProof.Rows L2 Z
/-! ## K95Text -/
/-! printed by gen.py from the linked text -/
def topS (i : Nat) : Stmt := PySem.Challenge.pw_termwide_k95_whole_ranges_by_corners.main.body.getD i (.Pass ⟨0, 0, 0, 0⟩)
abbrev s_wall : Stmt := topS 0
abbrev s_NoNumber__init : Stmt := inClass (topS 3) 0
abbrev s_NoFraction__init : Stmt := inClass (topS 4) 0
abbrev s_NoManner__init : Stmt := inClass (topS 5) 0
abbrev s_NoRow__init : Stmt := inClass (topS 6) 0
abbrev s_Nought__init : Stmt := inClass (topS 7) 0
abbrev s_is_number : Stmt := topS 9
abbrev s_common : Stmt := topS 15
abbrev s_is_fraction : Stmt := topS 16
abbrev s_need_fraction : Stmt := topS 17
abbrev s_made : Stmt := topS 18
abbrev s_lowest : Stmt := topS 19
abbrev s_sign_of : Stmt := topS 20
abbrev s_is_manner : Stmt := topS 21
abbrev s_Manner__word : Stmt := inClass (topS 23) 0
abbrev s_Manner__turned : Stmt := inClass (topS 23) 1
abbrev s_Manner__fits : Stmt := inClass (topS 23) 2
abbrev s_Manner__ends : Stmt := inClass (topS 23) 3
abbrev s_Manner__begins : Stmt := inClass (topS 23) 4
abbrev s_Manner__cone_behind : Stmt := inClass (topS 23) 5
abbrev s_Ceils__word : Stmt := inClass (topS 24) 0
abbrev s_Ceils__turned : Stmt := inClass (topS 24) 1
abbrev s_Ceils__fits : Stmt := inClass (topS 24) 2
abbrev s_Ceils__ends : Stmt := inClass (topS 24) 3
abbrev s_Ceils__cone_behind : Stmt := inClass (topS 24) 4
abbrev s_Nears__word : Stmt := inClass (topS 25) 0
abbrev s_Nears__fits : Stmt := inClass (topS 25) 1
abbrev s_Nears__ends : Stmt := inClass (topS 25) 2
abbrev s_Nears__begins : Stmt := inClass (topS 25) 3
abbrev s_Nears__cone_behind : Stmt := inClass (topS 25) 4
abbrev s_manner_of : Stmt := topS 26
abbrev s_is_beginning : Stmt := topS 27
abbrev s_need_beginning : Stmt := topS 28
abbrev s_cone : Stmt := topS 30
abbrev s_sides_of : Stmt := topS 32
abbrev s_form_at : Stmt := topS 33
abbrev s_allowed : Stmt := topS 34
abbrev s_crossed : Stmt := topS 35
abbrev s_corners_of : Stmt := topS 36
abbrev s_value_of : Stmt := topS 37
abbrev s_faces_of : Stmt := topS 38
abbrev s_outermost : Stmt := topS 39
abbrev s_range_over : Stmt := topS 40
abbrev s_law_cell : Stmt := topS 42
abbrev s_law_purse : Stmt := topS 43
abbrev s_law_take : Stmt := topS 44
abbrev s_law_sides : Stmt := topS 45
abbrev s_law_form : Stmt := topS 46
abbrev s_law_at : Stmt := topS 47
abbrev s_law_corner : Stmt := topS 48
abbrev s_law_nought_at : Stmt := topS 49
abbrev s_law_supports : Stmt := topS 50
abbrev s_law_point : Stmt := topS 51
abbrev s_law_points : Stmt := topS 52
abbrev s_law_no_range : Stmt := topS 53
abbrev s_law_weights : Stmt := topS 54
abbrev s_law_compared : Stmt := topS 55
abbrev s_law_ends_right : Stmt := topS 56
abbrev s_law_right : Stmt := topS 57
abbrev s_law : Stmt := topS 58
abbrev N_wall : List Str := ["k"]
theorem sc_wall : FnScope N_wall ["k"] (defScope s_wall) := ⟨rfl, rfl, rfl, by decide +kernel, rfl, by decide +kernel, by decide +kernel⟩
abbrev N_NoNumber__init : List Str := ["self", "found"]
theorem sc_NoNumber__init : FnScope N_NoNumber__init ["self", "found"] (defScope s_NoNumber__init) := ⟨rfl, rfl, rfl, by decide +kernel, rfl, by decide +kernel, by decide +kernel⟩
abbrev N_NoFraction__init : List Str := ["self", "found"]
theorem sc_NoFraction__init : FnScope N_NoFraction__init ["self", "found"] (defScope s_NoFraction__init) := ⟨rfl, rfl, rfl, by decide +kernel, rfl, by decide +kernel, by decide +kernel⟩
abbrev N_NoManner__init : List Str := ["self", "found"]
theorem sc_NoManner__init : FnScope N_NoManner__init ["self", "found"] (defScope s_NoManner__init) := ⟨rfl, rfl, rfl, by decide +kernel, rfl, by decide +kernel, by decide +kernel⟩
abbrev N_NoRow__init : List Str := ["self", "found"]
theorem sc_NoRow__init : FnScope N_NoRow__init ["self", "found"] (defScope s_NoRow__init) := ⟨rfl, rfl, rfl, by decide +kernel, rfl, by decide +kernel, by decide +kernel⟩
abbrev N_Nought__init : List Str := ["self", "found"]
theorem sc_Nought__init : FnScope N_Nought__init ["self", "found"] (defScope s_Nought__init) := ⟨rfl, rfl, rfl, by decide +kernel, rfl, by decide +kernel, by decide +kernel⟩
abbrev N_is_number : List Str := ["thing"]
theorem sc_is_number : FnScope N_is_number ["thing"] (defScope s_is_number) := ⟨rfl, rfl, rfl, by decide +kernel, rfl, by decide +kernel, by decide +kernel⟩
abbrev N_common : List Str := ["one", "other"]
theorem sc_common : FnScope N_common ["one", "other"] (defScope s_common) := ⟨rfl, rfl, rfl, by decide +kernel, rfl, by decide +kernel, by decide +kernel⟩
abbrev N_is_fraction : List Str := ["thing"]
theorem sc_is_fraction : FnScope N_is_fraction ["thing"] (defScope s_is_fraction) := ⟨rfl, rfl, rfl, by decide +kernel, rfl, by decide +kernel, by decide +kernel⟩
abbrev N_need_fraction : List Str := ["thing"]
theorem sc_need_fraction : FnScope N_need_fraction ["thing"] (defScope s_need_fraction) := ⟨rfl, rfl, rfl, by decide +kernel, rfl, by decide +kernel, by decide +kernel⟩
abbrev N_made : List Str := ["top", "bottom", "by"]
theorem sc_made : FnScope N_made ["top", "bottom"] (defScope s_made) := ⟨rfl, rfl, rfl, by decide +kernel, rfl, by decide +kernel, by decide +kernel⟩
abbrev N_lowest : List Str := ["top", "bottom", "one"]
theorem sc_lowest : FnScope N_lowest ["top", "bottom"] (defScope s_lowest) := ⟨rfl, rfl, rfl, by decide +kernel, rfl, by decide +kernel, by decide +kernel⟩
abbrev N_sign_of : List Str := ["one", "other", "here", "there"]
theorem sc_sign_of : FnScope N_sign_of ["one", "other"] (defScope s_sign_of) := ⟨rfl, rfl, rfl, by decide +kernel, rfl, by decide +kernel, by decide +kernel⟩
abbrev N_is_manner : List Str := ["thing"]
theorem sc_is_manner : FnScope N_is_manner ["thing"] (defScope s_is_manner) := ⟨rfl, rfl, rfl, by decide +kernel, rfl, by decide +kernel, by decide +kernel⟩
abbrev N_Manner__word : List Str := ["self"]
theorem sc_Manner__word : FnScope N_Manner__word ["self"] (defScope s_Manner__word) := ⟨rfl, rfl, rfl, by decide +kernel, rfl, by decide +kernel, by decide +kernel⟩
abbrev N_Manner__turned : List Str := ["self"]
theorem sc_Manner__turned : FnScope N_Manner__turned ["self"] (defScope s_Manner__turned) := ⟨rfl, rfl, rfl, by decide +kernel, rfl, by decide +kernel, by decide +kernel⟩
abbrev N_Manner__fits : List Str := ["self", "ahead", "term"]
theorem sc_Manner__fits : FnScope N_Manner__fits ["self", "ahead", "term"] (defScope s_Manner__fits) := ⟨rfl, rfl, rfl, by decide +kernel, rfl, by decide +kernel, by decide +kernel⟩
abbrev N_Manner__ends : List Str := ["self", "last"]
theorem sc_Manner__ends : FnScope N_Manner__ends ["self", "last"] (defScope s_Manner__ends) := ⟨rfl, rfl, rfl, by decide +kernel, rfl, by decide +kernel, by decide +kernel⟩
abbrev N_Manner__begins : List Str := ["self"]
theorem sc_Manner__begins : FnScope N_Manner__begins ["self"] (defScope s_Manner__begins) := ⟨rfl, rfl, rfl, by decide +kernel, rfl, by decide +kernel, by decide +kernel⟩
abbrev N_Manner__cone_behind : List Str := ["self", "last"]
theorem sc_Manner__cone_behind : FnScope N_Manner__cone_behind ["self", "last"] (defScope s_Manner__cone_behind) := ⟨rfl, rfl, rfl, by decide +kernel, rfl, by decide +kernel, by decide +kernel⟩
abbrev N_Ceils__word : List Str := ["self"]
theorem sc_Ceils__word : FnScope N_Ceils__word ["self"] (defScope s_Ceils__word) := ⟨rfl, rfl, rfl, by decide +kernel, rfl, by decide +kernel, by decide +kernel⟩
abbrev N_Ceils__turned : List Str := ["self"]
theorem sc_Ceils__turned : FnScope N_Ceils__turned ["self"] (defScope s_Ceils__turned) := ⟨rfl, rfl, rfl, by decide +kernel, rfl, by decide +kernel, by decide +kernel⟩
abbrev N_Ceils__fits : List Str := ["self", "ahead", "term"]
theorem sc_Ceils__fits : FnScope N_Ceils__fits ["self", "ahead", "term"] (defScope s_Ceils__fits) := ⟨rfl, rfl, rfl, by decide +kernel, rfl, by decide +kernel, by decide +kernel⟩
abbrev N_Ceils__ends : List Str := ["self", "last"]
theorem sc_Ceils__ends : FnScope N_Ceils__ends ["self", "last"] (defScope s_Ceils__ends) := ⟨rfl, rfl, rfl, by decide +kernel, rfl, by decide +kernel, by decide +kernel⟩
abbrev N_Ceils__cone_behind : List Str := ["self", "last"]
theorem sc_Ceils__cone_behind : FnScope N_Ceils__cone_behind ["self", "last"] (defScope s_Ceils__cone_behind) := ⟨rfl, rfl, rfl, by decide +kernel, rfl, by decide +kernel, by decide +kernel⟩
abbrev N_Nears__word : List Str := ["self"]
theorem sc_Nears__word : FnScope N_Nears__word ["self"] (defScope s_Nears__word) := ⟨rfl, rfl, rfl, by decide +kernel, rfl, by decide +kernel, by decide +kernel⟩
abbrev N_Nears__fits : List Str := ["self", "ahead", "term"]
theorem sc_Nears__fits : FnScope N_Nears__fits ["self", "ahead", "term"] (defScope s_Nears__fits) := ⟨rfl, rfl, rfl, by decide +kernel, rfl, by decide +kernel, by decide +kernel⟩
abbrev N_Nears__ends : List Str := ["self", "last"]
theorem sc_Nears__ends : FnScope N_Nears__ends ["self", "last"] (defScope s_Nears__ends) := ⟨rfl, rfl, rfl, by decide +kernel, rfl, by decide +kernel, by decide +kernel⟩
abbrev N_Nears__begins : List Str := ["self"]
theorem sc_Nears__begins : FnScope N_Nears__begins ["self"] (defScope s_Nears__begins) := ⟨rfl, rfl, rfl, by decide +kernel, rfl, by decide +kernel, by decide +kernel⟩
abbrev N_Nears__cone_behind : List Str := ["self", "last"]
theorem sc_Nears__cone_behind : FnScope N_Nears__cone_behind ["self", "last"] (defScope s_Nears__cone_behind) := ⟨rfl, rfl, rfl, by decide +kernel, rfl, by decide +kernel, by decide +kernel⟩
abbrev N_manner_of : List Str := ["word"]
theorem sc_manner_of : FnScope N_manner_of ["word"] (defScope s_manner_of) := ⟨rfl, rfl, rfl, by decide +kernel, rfl, by decide +kernel, by decide +kernel⟩
abbrev N_is_beginning : List Str := ["manner", "thing", "at", "term"]
theorem sc_is_beginning : FnScope N_is_beginning ["manner", "thing"] (defScope s_is_beginning) := ⟨rfl, rfl, rfl, by decide +kernel, rfl, by decide +kernel, by decide +kernel⟩
abbrev N_need_beginning : List Str := ["manner", "thing"]
theorem sc_need_beginning : FnScope N_need_beginning ["manner", "thing"] (defScope s_need_beginning) := ⟨rfl, rfl, rfl, by decide +kernel, rfl, by decide +kernel, by decide +kernel⟩
abbrev N_cone : List Str := ["terms", "manner", "kind"]
theorem sc_cone : FnScope N_cone ["terms", "manner"] (defScope s_cone) := ⟨rfl, rfl, rfl, by decide +kernel, rfl, by decide +kernel, by decide +kernel⟩
abbrev N_sides_of : List Str := ["terms", "ended", "manner"]
theorem sc_sides_of : FnScope N_sides_of ["terms", "ended", "manner"] (defScope s_sides_of) := ⟨rfl, rfl, rfl, by decide +kernel, rfl, by decide +kernel, by decide +kernel⟩
abbrev N_form_at : List Str := ["form", "vectors", "found", "top", "bottom", "half", "k"]
theorem sc_form_at : FnScope N_form_at ["form", "vectors"] (defScope s_form_at) := ⟨rfl, rfl, rfl, by decide +kernel, rfl, by decide +kernel, by decide +kernel⟩
abbrev N_allowed : List Str := ["sides", "found", "k", "side"]
theorem sc_allowed : FnScope N_allowed ["sides"] (defScope s_allowed) := ⟨rfl, rfl, rfl, by decide +kernel, rfl, by decide +kernel, by decide +kernel⟩
abbrev N_crossed : List Str := ["rows", "found", "row", "longer", "some", "one"]
theorem sc_crossed : FnScope N_crossed ["rows"] (defScope s_crossed) := ⟨rfl, rfl, rfl, by decide +kernel, rfl, by decide +kernel, by decide +kernel⟩
abbrev N_corners_of : List Str := ["top", "bottom", "sides", "found", "some", "vectors", "row", "k"]
theorem sc_corners_of : FnScope N_corners_of ["top", "bottom", "sides"] (defScope s_corners_of) := ⟨rfl, rfl, rfl, by decide +kernel, rfl, by decide +kernel, by decide +kernel⟩
abbrev N_value_of : List Str := ["corner"]
theorem sc_value_of : FnScope N_value_of ["corner"] (defScope s_value_of) := ⟨rfl, rfl, rfl, by decide +kernel, rfl, by decide +kernel, by decide +kernel⟩
abbrev N_faces_of : List Str := ["corners", "sides", "found", "lots", "values", "row", "some", "value"]
theorem sc_faces_of : FnScope N_faces_of ["corners", "sides"] (defScope s_faces_of) := ⟨rfl, rfl, rfl, by decide +kernel, rfl, by decide +kernel, by decide +kernel⟩
abbrev N_outermost : List Str := ["values", "sign", "found", "value"]
theorem sc_outermost : FnScope N_outermost ["values", "sign"] (defScope s_outermost) := ⟨rfl, rfl, rfl, by decide +kernel, rfl, by decide +kernel, by decide +kernel⟩
abbrev N_range_over : List Str := ["top", "bottom", "sides", "corners", "bottoms", "faces", "values", "low", "high", "low_in", "high_in", "corner", "face", "value"]
theorem sc_range_over : FnScope N_range_over ["top", "bottom", "sides"] (defScope s_range_over) := ⟨rfl, rfl, rfl, by decide +kernel, rfl, by decide +kernel, by decide +kernel⟩
abbrev N_law_cell : List Str := ["script", "k"]
theorem sc_law_cell : FnScope N_law_cell ["script", "k"] (defScope s_law_cell) := ⟨rfl, rfl, rfl, by decide +kernel, rfl, by decide +kernel, by decide +kernel⟩
abbrev N_law_purse : List Str := ["cell"]
theorem sc_law_purse : FnScope N_law_purse ["cell"] (defScope s_law_purse) := ⟨rfl, rfl, rfl, by decide +kernel, rfl, by decide +kernel, by decide +kernel⟩
abbrev N_law_take : List Str := ["purse", "many", "digit", "one", "other"]
theorem sc_law_take : FnScope N_law_take ["purse", "many"] (defScope s_law_take) := ⟨rfl, rfl, rfl, by decide +kernel, rfl, by decide +kernel, by decide +kernel⟩
abbrev N_law_sides : List Str := ["purse", "manner", "some", "terms", "ended", "found", "due"]
theorem sc_law_sides : FnScope N_law_sides ["purse"] (defScope s_law_sides) := ⟨rfl, rfl, rfl, by decide +kernel, rfl, by decide +kernel, by decide +kernel⟩
abbrev N_law_form : List Str := ["purse", "many", "wide", "k"]
theorem sc_law_form : FnScope N_law_form ["purse", "many"] (defScope s_law_form) := ⟨rfl, rfl, rfl, by decide +kernel, rfl, by decide +kernel, by decide +kernel⟩
abbrev N_law_at : List Str := ["form", "vectors", "p", "q", "r", "s", "a", "b", "c", "d"]
theorem sc_law_at : FnScope N_law_at ["form", "vectors"] (defScope s_law_at) := ⟨rfl, rfl, rfl, by decide +kernel, rfl, by decide +kernel, by decide +kernel⟩
abbrev N_law_corner : List Str := ["sides", "at", "first"]
theorem sc_law_corner : FnScope N_law_corner ["sides", "at"] (defScope s_law_corner) := ⟨rfl, rfl, rfl, by decide +kernel, rfl, by decide +kernel, by decide +kernel⟩
abbrev N_law_nought_at : List Str := ["purse", "form", "sides", "vectors", "found", "p", "q", "r", "s"]
theorem sc_law_nought_at : FnScope N_law_nought_at ["purse", "form", "sides"] (defScope s_law_nought_at) := ⟨rfl, rfl, rfl, by decide +kernel, rfl, by decide +kernel, by decide +kernel⟩
abbrev N_law_supports : List Str := ["side", "found", "k"]
theorem sc_law_supports : FnScope N_law_supports ["side"] (defScope s_law_supports) := ⟨rfl, rfl, rfl, by decide +kernel, rfl, by decide +kernel, by decide +kernel⟩
abbrev N_law_point : List Str := ["side", "weights", "top", "weight", "one"]
theorem sc_law_point : FnScope N_law_point ["side", "weights"] (defScope s_law_point) := ⟨rfl, rfl, rfl, by decide +kernel, rfl, by decide +kernel, by decide +kernel⟩
abbrev N_law_points : List Str := ["sides", "rows", "found", "longer", "some", "one", "other"]
theorem sc_law_points : FnScope N_law_points ["sides", "rows"] (defScope s_law_points) := ⟨rfl, rfl, rfl, by decide +kernel, rfl, by decide +kernel, by decide +kernel⟩
abbrev N_law_no_range : List Str := ["top", "bottom", "sides", "corners", "bottoms", "rows", "at", "one", "side"]
theorem sc_law_no_range : FnScope N_law_no_range ["top", "bottom", "sides"] (defScope s_law_no_range) := ⟨rfl, rfl, rfl, by decide +kernel, rfl, by decide +kernel, by decide +kernel⟩
abbrev N_law_weights : List Str := ["purse", "side", "far", "some", "one"]
theorem sc_law_weights : FnScope N_law_weights ["purse", "side"] (defScope s_law_weights) := ⟨rfl, rfl, rfl, by decide +kernel, rfl, by decide +kernel, by decide +kernel⟩
abbrev N_law_compared : List Str := ["value", "end", "top", "bottom"]
theorem sc_law_compared : FnScope N_law_compared ["value", "end"] (defScope s_law_compared) := ⟨rfl, rfl, rfl, by decide +kernel, rfl, by decide +kernel, by decide +kernel⟩
abbrev N_law_ends_right : List Str := ["found", "values", "held", "low", "low_in", "high", "high_in", "value", "here", "there", "end", "is_in", "near"]
theorem sc_law_ends_right : FnScope N_law_ends_right ["found", "values", "held"] (defScope s_law_ends_right) := ⟨rfl, rfl, rfl, by decide +kernel, rfl, by decide +kernel, by decide +kernel⟩
abbrev N_law_right : List Str := ["purse", "top", "bottom", "sides", "kept", "found", "points", "held", "one", "values", "side", "pair"]
theorem sc_law_right : FnScope N_law_right ["purse", "top", "bottom", "sides"] (defScope s_law_right) := ⟨rfl, rfl, rfl, by decide +kernel, rfl, by decide +kernel, by decide +kernel⟩
abbrev N_law : List Str := ["script", "k", "purse", "many", "sides", "top", "bottom", "way", "turn"]
theorem sc_law : FnScope N_law ["script"] (defScope s_law) := ⟨rfl, rfl, rfl, by decide +kernel, rfl, by decide +kernel, by decide +kernel⟩
def d_wall : He.DefD := ⟨("_wall", none), "_wall", "_wall", defArgs s_wall, defBody s_wall, defScope s_wall, [], []⟩
def d_NoNumber__init : He.DefD := ⟨("NoNumber", some "__init__"), "__init__", "NoNumber.__init__", defArgs s_NoNumber__init, defBody s_NoNumber__init, defScope s_NoNumber__init, [], []⟩
def d_NoFraction__init : He.DefD := ⟨("NoFraction", some "__init__"), "__init__", "NoFraction.__init__", defArgs s_NoFraction__init, defBody s_NoFraction__init, defScope s_NoFraction__init, [], []⟩
def d_NoManner__init : He.DefD := ⟨("NoManner", some "__init__"), "__init__", "NoManner.__init__", defArgs s_NoManner__init, defBody s_NoManner__init, defScope s_NoManner__init, [], []⟩
def d_NoRow__init : He.DefD := ⟨("NoRow", some "__init__"), "__init__", "NoRow.__init__", defArgs s_NoRow__init, defBody s_NoRow__init, defScope s_NoRow__init, [], []⟩
def d_Nought__init : He.DefD := ⟨("Nought", some "__init__"), "__init__", "Nought.__init__", defArgs s_Nought__init, defBody s_Nought__init, defScope s_Nought__init, [], []⟩
def d_is_number : He.DefD := ⟨("is_number", none), "is_number", "is_number", defArgs s_is_number, defBody s_is_number, defScope s_is_number, [], []⟩
def d_common : He.DefD := ⟨("common", none), "common", "common", defArgs s_common, defBody s_common, defScope s_common, [], []⟩
def d_is_fraction : He.DefD := ⟨("is_fraction", none), "is_fraction", "is_fraction", defArgs s_is_fraction, defBody s_is_fraction, defScope s_is_fraction, [], []⟩
def d_need_fraction : He.DefD := ⟨("need_fraction", none), "need_fraction", "need_fraction", defArgs s_need_fraction, defBody s_need_fraction, defScope s_need_fraction, [], []⟩
def d_made : He.DefD := ⟨("made", none), "made", "made", defArgs s_made, defBody s_made, defScope s_made, [], []⟩
def d_lowest : He.DefD := ⟨("lowest", none), "lowest", "lowest", defArgs s_lowest, defBody s_lowest, defScope s_lowest, [.int 1], []⟩
def d_sign_of : He.DefD := ⟨("sign_of", none), "sign_of", "sign_of", defArgs s_sign_of, defBody s_sign_of, defScope s_sign_of, [], []⟩
def d_is_manner : He.DefD := ⟨("is_manner", none), "is_manner", "is_manner", defArgs s_is_manner, defBody s_is_manner, defScope s_is_manner, [], []⟩
def d_Manner__word : He.DefD := ⟨("Manner", some "word"), "word", "Manner.word", defArgs s_Manner__word, defBody s_Manner__word, defScope s_Manner__word, [], []⟩
def d_Manner__turned : He.DefD := ⟨("Manner", some "turned"), "turned", "Manner.turned", defArgs s_Manner__turned, defBody s_Manner__turned, defScope s_Manner__turned, [], []⟩
def d_Manner__fits : He.DefD := ⟨("Manner", some "fits"), "fits", "Manner.fits", defArgs s_Manner__fits, defBody s_Manner__fits, defScope s_Manner__fits, [], []⟩
def d_Manner__ends : He.DefD := ⟨("Manner", some "ends"), "ends", "Manner.ends", defArgs s_Manner__ends, defBody s_Manner__ends, defScope s_Manner__ends, [], []⟩
def d_Manner__begins : He.DefD := ⟨("Manner", some "begins"), "begins", "Manner.begins", defArgs s_Manner__begins, defBody s_Manner__begins, defScope s_Manner__begins, [], []⟩
def d_Manner__cone_behind : He.DefD := ⟨("Manner", some "cone_behind"), "cone_behind", "Manner.cone_behind", defArgs s_Manner__cone_behind, defBody s_Manner__cone_behind, defScope s_Manner__cone_behind, [], []⟩
def d_Ceils__word : He.DefD := ⟨("Ceils", some "word"), "word", "Ceils.word", defArgs s_Ceils__word, defBody s_Ceils__word, defScope s_Ceils__word, [], []⟩
def d_Ceils__turned : He.DefD := ⟨("Ceils", some "turned"), "turned", "Ceils.turned", defArgs s_Ceils__turned, defBody s_Ceils__turned, defScope s_Ceils__turned, [], []⟩
def d_Ceils__fits : He.DefD := ⟨("Ceils", some "fits"), "fits", "Ceils.fits", defArgs s_Ceils__fits, defBody s_Ceils__fits, defScope s_Ceils__fits, [], []⟩
def d_Ceils__ends : He.DefD := ⟨("Ceils", some "ends"), "ends", "Ceils.ends", defArgs s_Ceils__ends, defBody s_Ceils__ends, defScope s_Ceils__ends, [], []⟩
def d_Ceils__cone_behind : He.DefD := ⟨("Ceils", some "cone_behind"), "cone_behind", "Ceils.cone_behind", defArgs s_Ceils__cone_behind, defBody s_Ceils__cone_behind, defScope s_Ceils__cone_behind, [], []⟩
def d_Nears__word : He.DefD := ⟨("Nears", some "word"), "word", "Nears.word", defArgs s_Nears__word, defBody s_Nears__word, defScope s_Nears__word, [], []⟩
def d_Nears__fits : He.DefD := ⟨("Nears", some "fits"), "fits", "Nears.fits", defArgs s_Nears__fits, defBody s_Nears__fits, defScope s_Nears__fits, [], []⟩
def d_Nears__ends : He.DefD := ⟨("Nears", some "ends"), "ends", "Nears.ends", defArgs s_Nears__ends, defBody s_Nears__ends, defScope s_Nears__ends, [], []⟩
def d_Nears__begins : He.DefD := ⟨("Nears", some "begins"), "begins", "Nears.begins", defArgs s_Nears__begins, defBody s_Nears__begins, defScope s_Nears__begins, [], []⟩
def d_Nears__cone_behind : He.DefD := ⟨("Nears", some "cone_behind"), "cone_behind", "Nears.cone_behind", defArgs s_Nears__cone_behind, defBody s_Nears__cone_behind, defScope s_Nears__cone_behind, [], []⟩
def d_manner_of : He.DefD := ⟨("manner_of", none), "manner_of", "manner_of", defArgs s_manner_of, defBody s_manner_of, defScope s_manner_of, [], []⟩
def d_is_beginning : He.DefD := ⟨("is_beginning", none), "is_beginning", "is_beginning", defArgs s_is_beginning, defBody s_is_beginning, defScope s_is_beginning, [], []⟩
def d_need_beginning : He.DefD := ⟨("need_beginning", none), "need_beginning", "need_beginning", defArgs s_need_beginning, defBody s_need_beginning, defScope s_need_beginning, [], []⟩
def d_cone : He.DefD := ⟨("cone", none), "cone", "cone", defArgs s_cone, defBody s_cone, defScope s_cone, [.str "floor"], []⟩
def d_sides_of : He.DefD := ⟨("sides_of", none), "sides_of", "sides_of", defArgs s_sides_of, defBody s_sides_of, defScope s_sides_of, [], []⟩
def d_form_at : He.DefD := ⟨("form_at", none), "form_at", "form_at", defArgs s_form_at, defBody s_form_at, defScope s_form_at, [], []⟩
def d_allowed : He.DefD := ⟨("allowed", none), "allowed", "allowed", defArgs s_allowed, defBody s_allowed, defScope s_allowed, [], []⟩
def d_crossed : He.DefD := ⟨("crossed", none), "crossed", "crossed", defArgs s_crossed, defBody s_crossed, defScope s_crossed, [], []⟩
def d_corners_of : He.DefD := ⟨("corners_of", none), "corners_of", "corners_of", defArgs s_corners_of, defBody s_corners_of, defScope s_corners_of, [], []⟩
def d_value_of : He.DefD := ⟨("value_of", none), "value_of", "value_of", defArgs s_value_of, defBody s_value_of, defScope s_value_of, [], []⟩
def d_faces_of : He.DefD := ⟨("faces_of", none), "faces_of", "faces_of", defArgs s_faces_of, defBody s_faces_of, defScope s_faces_of, [], []⟩
def d_outermost : He.DefD := ⟨("outermost", none), "outermost", "outermost", defArgs s_outermost, defBody s_outermost, defScope s_outermost, [], []⟩
def d_range_over : He.DefD := ⟨("range_over", none), "range_over", "range_over", defArgs s_range_over, defBody s_range_over, defScope s_range_over, [], []⟩
def d_law_cell : He.DefD := ⟨("_law_cell", none), "_law_cell", "_law_cell", defArgs s_law_cell, defBody s_law_cell, defScope s_law_cell, [], []⟩
def d_law_purse : He.DefD := ⟨("_law_purse", none), "_law_purse", "_law_purse", defArgs s_law_purse, defBody s_law_purse, defScope s_law_purse, [], []⟩
def d_law_take : He.DefD := ⟨("_law_take", none), "_law_take", "_law_take", defArgs s_law_take, defBody s_law_take, defScope s_law_take, [], []⟩
def d_law_sides : He.DefD := ⟨("_law_sides", none), "_law_sides", "_law_sides", defArgs s_law_sides, defBody s_law_sides, defScope s_law_sides, [], []⟩
def d_law_form : He.DefD := ⟨("_law_form", none), "_law_form", "_law_form", defArgs s_law_form, defBody s_law_form, defScope s_law_form, [], []⟩
def d_law_at : He.DefD := ⟨("_law_at", none), "_law_at", "_law_at", defArgs s_law_at, defBody s_law_at, defScope s_law_at, [], []⟩
def d_law_corner : He.DefD := ⟨("_law_corner", none), "_law_corner", "_law_corner", defArgs s_law_corner, defBody s_law_corner, defScope s_law_corner, [], []⟩
def d_law_nought_at : He.DefD := ⟨("_law_nought_at", none), "_law_nought_at", "_law_nought_at", defArgs s_law_nought_at, defBody s_law_nought_at, defScope s_law_nought_at, [], []⟩
def d_law_supports : He.DefD := ⟨("_law_supports", none), "_law_supports", "_law_supports", defArgs s_law_supports, defBody s_law_supports, defScope s_law_supports, [], []⟩
def d_law_point : He.DefD := ⟨("_law_point", none), "_law_point", "_law_point", defArgs s_law_point, defBody s_law_point, defScope s_law_point, [], []⟩
def d_law_points : He.DefD := ⟨("_law_points", none), "_law_points", "_law_points", defArgs s_law_points, defBody s_law_points, defScope s_law_points, [], []⟩
def d_law_no_range : He.DefD := ⟨("_law_no_range", none), "_law_no_range", "_law_no_range", defArgs s_law_no_range, defBody s_law_no_range, defScope s_law_no_range, [], []⟩
def d_law_weights : He.DefD := ⟨("_law_weights", none), "_law_weights", "_law_weights", defArgs s_law_weights, defBody s_law_weights, defScope s_law_weights, [], []⟩
def d_law_compared : He.DefD := ⟨("_law_compared", none), "_law_compared", "_law_compared", defArgs s_law_compared, defBody s_law_compared, defScope s_law_compared, [], []⟩
def d_law_ends_right : He.DefD := ⟨("_law_ends_right", none), "_law_ends_right", "_law_ends_right", defArgs s_law_ends_right, defBody s_law_ends_right, defScope s_law_ends_right, [], []⟩
def d_law_right : He.DefD := ⟨("_law_right", none), "_law_right", "_law_right", defArgs s_law_right, defBody s_law_right, defScope s_law_right, [], []⟩
def d_law : He.DefD := ⟨("law", none), "law", "law", defArgs s_law, defBody s_law, defScope s_law, [], []⟩
def fnL : List He.DefD := [d_wall, d_NoNumber__init, d_NoFraction__init, d_NoManner__init, d_NoRow__init, d_Nought__init, d_is_number, d_common, d_is_fraction, d_need_fraction, d_made, d_lowest, d_sign_of, d_is_manner, d_Manner__word, d_Manner__turned, d_Manner__fits, d_Manner__ends, d_Manner__begins, d_Manner__cone_behind, d_Ceils__word, d_Ceils__turned, d_Ceils__fits, d_Ceils__ends, d_Ceils__cone_behind, d_Nears__word, d_Nears__fits, d_Nears__ends, d_Nears__begins, d_Nears__cone_behind, d_manner_of, d_is_beginning, d_need_beginning, d_cone, d_sides_of, d_form_at, d_allowed, d_crossed, d_corners_of, d_value_of, d_faces_of, d_outermost, d_range_over, d_law_cell, d_law_purse, d_law_take, d_law_sides, d_law_form, d_law_at, d_law_corner, d_law_nought_at, d_law_supports, d_law_point, d_law_points, d_law_no_range, d_law_weights, d_law_compared, d_law_ends_right, d_law_right, d_law]
/-- places in fnL -/
abbrev i_wall : Nat := 0
abbrev i_NoNumber__init : Nat := 1
abbrev i_NoFraction__init : Nat := 2
abbrev i_NoManner__init : Nat := 3
abbrev i_NoRow__init : Nat := 4
abbrev i_Nought__init : Nat := 5
abbrev i_is_number : Nat := 6
abbrev i_common : Nat := 7
abbrev i_is_fraction : Nat := 8
abbrev i_need_fraction : Nat := 9
abbrev i_made : Nat := 10
abbrev i_lowest : Nat := 11
abbrev i_sign_of : Nat := 12
abbrev i_is_manner : Nat := 13
abbrev i_Manner__word : Nat := 14
abbrev i_Manner__turned : Nat := 15
abbrev i_Manner__fits : Nat := 16
abbrev i_Manner__ends : Nat := 17
abbrev i_Manner__begins : Nat := 18
abbrev i_Manner__cone_behind : Nat := 19
abbrev i_Ceils__word : Nat := 20
abbrev i_Ceils__turned : Nat := 21
abbrev i_Ceils__fits : Nat := 22
abbrev i_Ceils__ends : Nat := 23
abbrev i_Ceils__cone_behind : Nat := 24
abbrev i_Nears__word : Nat := 25
abbrev i_Nears__fits : Nat := 26
abbrev i_Nears__ends : Nat := 27
abbrev i_Nears__begins : Nat := 28
abbrev i_Nears__cone_behind : Nat := 29
abbrev i_manner_of : Nat := 30
abbrev i_is_beginning : Nat := 31
abbrev i_need_beginning : Nat := 32
abbrev i_cone : Nat := 33
abbrev i_sides_of : Nat := 34
abbrev i_form_at : Nat := 35
abbrev i_allowed : Nat := 36
abbrev i_crossed : Nat := 37
abbrev i_corners_of : Nat := 38
abbrev i_value_of : Nat := 39
abbrev i_faces_of : Nat := 40
abbrev i_outermost : Nat := 41
abbrev i_range_over : Nat := 42
abbrev i_law_cell : Nat := 43
abbrev i_law_purse : Nat := 44
abbrev i_law_take : Nat := 45
abbrev i_law_sides : Nat := 46
abbrev i_law_form : Nat := 47
abbrev i_law_at : Nat := 48
abbrev i_law_corner : Nat := 49
abbrev i_law_nought_at : Nat := 50
abbrev i_law_supports : Nat := 51
abbrev i_law_point : Nat := 52
abbrev i_law_points : Nat := 53
abbrev i_law_no_range : Nat := 54
abbrev i_law_weights : Nat := 55
abbrev i_law_compared : Nat := 56
abbrev i_law_ends_right : Nat := 57
abbrev i_law_right : Nat := 58
abbrev i_law : Nat := 59
def freeL0 : List Str := ["ValueError", "abs", "all", "bool", "enumerate", "int", "isinstance", "len", "list", "max", "min", "range"]
def freeL1 : List Str := ["repr", "str", "sum", "tuple", "zip"]
def freeL : List Str := freeL0 ++ (freeL1)
def gloL0 : List Str := ["_wall", "is_number", "common", "is_fraction", "need_fraction", "made", "lowest", "sign_of", "is_manner", "manner_of", "is_beginning", "need_beginning"]
def gloL1 : List Str := ["cone", "sides_of", "form_at", "allowed", "crossed", "corners_of", "value_of", "faces_of", "outermost", "range_over", "_law_cell", "_law_purse"]
def gloL2 : List Str := ["_law_take", "_law_sides", "_law_form", "_law_at", "_law_corner", "_law_nought_at", "_law_supports", "_law_point", "_law_points", "_law_no_range", "_law_weights", "_law_compared"]
def gloL3 : List Str := ["_law_ends_right", "_law_right", "law"]
def gloL : List Str := gloL0 ++ (gloL1 ++ (gloL2 ++ (gloL3)))
def clsL0 : List Str := ["TermError", "NoNumber", "NoFraction", "NoManner", "NoRow", "Nought", "Manner", "Ceils", "Nears"]
def clsL : List Str := clsL0

def clsU : List Str := ["Manner", "Ceils", "Nears"]
def gloU : List Str := ["MANNERS", "Manner", "Ceils", "Nears"]
def mthU : List Str := ["word", "fits", "begins", "cone_behind"]
def strU : List (Str × Str) := [("FLOOR", "floor"), ("CEIL", "ceil"), ("NEAR", "near")]
def faL : List He.Fa := gloL.map .glo ++ (freeL.map .free ++ (clsU.map .cls ++ (strU.map (fun p => He.Fa.str p.1 p.2) ++ (gloU.map .glo ++ (mthU.map (He.Fa.meth "Manner") ++ (mthU.map (He.Fa.meth "Ceils") ++ mthU.map (He.Fa.meth "Nears")))))))
def chk (K : Frag) : Bool := (faL.all fun f => f.ok K) && (clsU.all (fun x => mk0B K (He.ga K x)) && (He.tupB K "MANNERS" [.str "floor", .str "ceil", .str "near"] && He.eqO (PySem.W.findIn K (.ref (He.ga K "Ceils")) "begins") (some (some (.ref (He.fAd K ("Manner", some "begins")))))))
abbrev R : PySem.W.OpenRow := PySem.W.OpenLaw.row PySem.Challenge.rw_termwide_k95_whole_ranges_by_corners
abbrev hk : PySem.W.Hook := hookX 4 chk fnL
def ob (s : PySem.W.SharedT) : He.AlD := obsXG 4 chk fnL (HandSHeadRun.getT s)
theorem ob_eq (s : PySem.W.SharedT) : ob s = hk.obs s.abs := obsXG_eq (HandSHeadRun.getT_eq s)
def loose0 : List PySem.Str := ["TermError", "NoNumber", "NoFraction", "NoManner", "NoRow", "Nought", "Manner", "Ceils", "Nears", "_wall", "is_number", "common"]
def loose1 : List PySem.Str := ["is_fraction", "need_fraction", "made", "lowest", "sign_of", "is_manner", "manner_of", "is_beginning", "need_beginning", "cone", "sides_of", "form_at"]
def loose2 : List PySem.Str := ["allowed", "crossed", "corners_of", "value_of", "faces_of", "outermost", "range_over", "_law_cell", "_law_purse", "_law_take", "_law_sides", "_law_form"]
def loose3 : List PySem.Str := ["_law_at", "_law_corner", "_law_nought_at", "_law_supports", "_law_point", "_law_points", "_law_no_range", "_law_weights", "_law_compared", "_law_ends_right", "_law_right", "FLOOR"]
def loose4 : List PySem.Str := ["CEIL", "NEAR", "MANNERS"]
def loose : List PySem.Str := loose0 ++ (loose1 ++ (loose2 ++ (loose3 ++ (loose4))))
set_option maxHeartbeats 0 in
theorem run (w : World) : HandSHeadRun.RunEq R (PySem.W.view R.prog [58]) hk ob 6000 loose w := by
  intro os
  kernel_rfl
/-! ## K95A -/
structure Txt (K : Frag) (mg : Str → Option Value) : Prop where
  says : SaysX chk fnL K
  glo : ∀ x : Str, (gloL ++ gloU).contains x = true → mg x = some (.ref (He.ga K x))
  free : ∀ x : Str, freeL.contains x = true → mg x = none
  str : ∀ x z : Str, strU.contains (x, z) = true → ∃ t, mg x = some (.str z t)
  cls : ∀ x : Str, clsU.contains x = true → Cls K (He.ga K x)
  mth : ∀ x m : Str, (clsU.contains x && mthU.contains m) = true → Meth K (He.ga K x) m (He.fAd K (x, some m))
  inh : Meth K (He.ga K "Ceils") "begins" (He.fAd K ("Manner", some "begins"))
  mk0 : ∀ x : Str, clsU.contains x = true → Mk0 K (He.ga K x)
  mnr : ∀ H : Hp, SqT K H (He.ga K "MANNERS") [.str "floor", .str "ceil", .str "near"]
local macro_rules | `(tactic| walk_at "zat") => `(tactic| first
  | with_reducible exact At.here
  | with_reducible exact At.there At.here
  | with_reducible exact At.there (At.there At.here)
  | with_reducible exact At.there (At.there (At.there At.here))
  | with_reducible exact At.there (At.there (At.there (At.there At.here)))
  | with_reducible exact At.there (At.there (At.there (At.there (At.there At.here))))
  | with_reducible exact At.there (At.there (At.there (At.there (At.there (At.there At.here)))))
  | with_reducible exact At.there (At.there (At.there (At.there (At.there (At.there (At.there At.here))))))
  | with_reducible exact At.there (At.there (At.there (At.there (At.there (At.there (At.there (At.there At.here)))))))
  | with_reducible exact At.there (At.there (At.there (At.there (At.there (At.there (At.there (At.there (At.there At.here))))))))
  | with_reducible exact At.there (At.there (At.there (At.there (At.there (At.there (At.there (At.there (At.there (At.there At.here)))))))))
  | with_reducible exact At.there (At.there (At.there (At.there (At.there (At.there (At.there (At.there (At.there (At.there (At.there At.here))))))))))
  | with_reducible exact At.there (At.there (At.there (At.there (At.there (At.there (At.there (At.there (At.there (At.there (At.there (At.there At.here)))))))))))
  | with_reducible exact At.there (At.there (At.there (At.there (At.there (At.there (At.there (At.there (At.there (At.there (At.there (At.there (At.there At.here))))))))))))
  | with_reducible exact At.there (At.there (At.there (At.there (At.there (At.there (At.there (At.there (At.there (At.there (At.there (At.there (At.there (At.there At.here)))))))))))))
  | with_reducible exact At.there (At.there (At.there (At.there (At.there (At.there (At.there (At.there (At.there (At.there (At.there (At.there (At.there (At.there (At.there At.here))))))))))))))
  | with_reducible exact At.there (At.there (At.there (At.there (At.there (At.there (At.there (At.there (At.there (At.there (At.there (At.there (At.there (At.there (At.there (At.there At.here)))))))))))))))
  | with_reducible exact At.there (At.there (At.there (At.there (At.there (At.there (At.there (At.there (At.there (At.there (At.there (At.there (At.there (At.there (At.there (At.there (At.there At.here))))))))))))))))
  | with_reducible exact At.there (At.there (At.there (At.there (At.there (At.there (At.there (At.there (At.there (At.there (At.there (At.there (At.there (At.there (At.there (At.there (At.there (At.there At.here)))))))))))))))))
  | with_reducible exact At.there (At.there (At.there (At.there (At.there (At.there (At.there (At.there (At.there (At.there (At.there (At.there (At.there (At.there (At.there (At.there (At.there (At.there (At.there At.here)))))))))))))))))))
local macro_rules | `(tactic| walk_at "zs") => `(tactic| ((dsimp only [wipeG, List.map, List.set]); try exact rfl))
local macro_rules | `(tactic| walk_at "zb") => `(tactic| exact bs_of (by kernel_rfl) (Txt.free (by assumption) _ (by kernel_rfl)) (by kernel_rfl))
local macro_rules | `(tactic| walk_at "zop") => `(tactic| first
  | ((with_reducible show ev _ (Expr.BinOp _ Operator.Add _ _) _ _ _); refine ev_add ?_)
  | ((with_reducible show ev _ (Expr.BinOp _ Operator.Sub _ _) _ _ _); refine ev_sub ?_)
  | ((with_reducible show ev _ (Expr.BinOp _ Operator.Mult _ _) _ _ _); refine ev_mul ?_)
  | ((with_reducible show ev _ (Expr.BinOp _ Operator.FloorDiv _ _) _ _ _); refine ev_fdivZ ?_)
  | ((with_reducible show ev _ (Expr.BinOp _ Operator.Mod _ _) _ _ _); refine ev_mod ?_)
  | ((with_reducible show ev _ (Expr.BinOp _ Operator.Pow _ _) _ _ _); refine ev_pow ?_))
local macro_rules | `(tactic| walk_at "zcall") => `(tactic| first
  | ((with_reducible show ev _ (Expr.Call (Expr.Name "isinstance" _) [_, Expr.Name _ _] _ _) _ _ _); refine ev_isi (by walk_at "zb") ?_)
  | ((with_reducible show ev _ (Expr.Call (Expr.Name "isinstance" _) _ _ _) _ _ _); refine ev_isiT (by walk_at "zb") ?_)
  | ((with_reducible show ev _ (Expr.Call (Expr.Name "abs" _) _ _ _) _ _ _); refine ev_abs (by walk_at "zb") ?_)
  | ((with_reducible show ev _ (Expr.Call (Expr.Name "len" _) _ _ _) _ _ _); refine ev_len (by walk_at "zb") ?_)
  | ((with_reducible show ev _ (Expr.Call (Expr.Name "int" _) _ _ _) _ _ _); refine ev_int1 (by walk_at "zb") ?_)
  | ((with_reducible show ev _ (Expr.Call (Expr.Name "all" _) _ _ _) _ _ _); refine ev_all (by walk_at "zb") ?_)
  | ((with_reducible show ev _ (Expr.Call (Expr.Name "sum" _) _ _ _) _ _ _); refine ev_sum (by walk_at "zb") ?_)
  | ((with_reducible show ev _ (Expr.Call (Expr.Name "repr" _) _ _ _) _ _ _); refine ev_repr (by walk_at "zb") ?_)
  | ((with_reducible show ev _ (Expr.Call (Expr.Name "list" _) [Expr.Call (Expr.Name "range" _) _ _ _] _ _) _ _ _); refine ev_listRg (by walk_at "zb") (by walk_at "zb") ?_)
  | ((with_reducible show ev _ (Expr.Call (Expr.Name "list" _) _ _ _) _ _ _); refine ev_list (by walk_at "zb") ?_)
  | ((with_reducible show ev _ (Expr.Call (Expr.Name "tuple" _) _ _ _) _ _ _); refine ev_tuple (by walk_at "zb") ?_)
  | ((with_reducible show ev _ (Expr.Call (Expr.Name "max" _) [_, _] _ _) _ _ _); refine ev_max2 (by walk_at "zb") ?_)
  | ((with_reducible show ev _ (Expr.Call (Expr.Name "min" _) [_, _] _ _) _ _ _); refine ev_min2 (by walk_at "zb") ?_)
  | ((with_reducible show ev _ (Expr.Call (Expr.Name "max" _) [_] _ _) _ _ _); refine ev_max (by walk_at "zb") ?_)
  | ((with_reducible show ev _ (Expr.Call (Expr.Name "min" _) [_] _ _) _ _ _); refine ev_min (by walk_at "zb") ?_)
  | refine ev_call (by assumption) (Nat.le_of_ble_eq_true (by rfl)) (gsB_of (by kernel_rfl)) ?_)
local macro_rules | `(tactic| walk_at "ze") => `(tactic| first
  | ((with_reducible show ev _ (Expr.Name "int" _) _ _ _); refine ev_ty (n := "int") (by walk_at "zb") ?_)
  | ((with_reducible show ev _ (Expr.Name "bool" _) _ _ _); refine ev_ty (n := "bool") (by walk_at "zb") ?_)
  | ((with_reducible show ev _ (Expr.Name "str" _) _ _ _); refine ev_ty (n := "str") (by walk_at "zb") ?_)
  | ((with_reducible show ev _ (Expr.Name "list" _) _ _ _); refine ev_ty (n := "list") (by walk_at "zb") ?_)
  | ((with_reducible show ev _ (Expr.Name "tuple" _) _ _ _); refine ev_ty (n := "tuple") (by walk_at "zb") ?_)
  | ((with_reducible show ev _ (Expr.Name _ _) _ _ _); refine ev_nm (by walk_at "zat") (by rfl) (by kernel_rfl) ?_)
  | ((with_reducible show ev _ (Expr.Constant (Const.int _) _ _) _ _ _); refine ev_int ?_)
  | ((with_reducible show ev _ (Expr.Constant (Const.bool _) _ _) _ _ _); refine ev_bl ?_)
  | ((with_reducible show ev _ (Expr.Constant Const.none _ _) _ _ _); refine ev_non ?_)
  | ((with_reducible show ev _ (Expr.Constant (Const.str _) _ _) _ _ _); refine ev_str ?_)
  | ((with_reducible show ev _ (Expr.BinOp _ _ _ _) _ _ _); walk_at "zop")
  | ((with_reducible show ev _ (Expr.UnaryOp UnaryOp.USub _ _) _ _ _); refine ev_neg ?_)
  | ((with_reducible show ev _ (Expr.UnaryOp UnaryOp.Not _ _) _ _ _); refine ev_not ?_)
  | ((with_reducible show ev _ (Expr.Compare _ [_] _ _) _ _ _); refine ev_cmp ?_)
  | ((with_reducible show ev _ (Expr.BoolOp _ [_] _) _ _ _); refine ev_one ?_)
  | ((with_reducible show ev _ (Expr.BoolOp BoolOp.And _ _) _ _ _); refine ev_and ?_)
  | ((with_reducible show ev _ (Expr.BoolOp BoolOp.Or _ _) _ _ _); refine ev_or ?_)
  | ((with_reducible show ev _ (Expr.IfExp _ _ _ _) _ _ _); refine ev_ife ?_)
  | ((with_reducible show ev _ (Expr.Subscript _ (Expr.Slice _ _ none _) _) _ _ _); refine ev_slL ?_)
  | ((with_reducible show ev _ (Expr.Subscript _ _ _) _ _ _); refine ev_ix (fun _ _ => rfl) ?_)
  | ((with_reducible show ev _ (Expr.Tuple _ _ _) _ _ _); refine ev_tup ?_)
  | ((with_reducible show ev _ (Expr.List _ _) _ _ _); refine ev_lst ?_)
  | ((with_reducible show ev _ (Expr.Call _ _ _ _) _ _ _); walk_at "zcall"))
local macro_rules | `(tactic| walk_at "zc") => `(tactic| first
  | ((with_reducible show ec _ CmpOp.Lt _ _ _ _ _); refine ec_lt ?_)
  | ((with_reducible show ec _ CmpOp.LtE _ _ _ _ _); refine ec_le ?_)
  | ((with_reducible show ec _ CmpOp.Gt _ _ _ _ _); refine ec_gt ?_)
  | ((with_reducible show ec _ CmpOp.GtE _ _ _ _ _); refine ec_ge ?_)
  | ((with_reducible show ec _ CmpOp.Eq _ (Expr.List _ _) _ _ _); refine ec_eqD ?_) | ((with_reducible show ec _ CmpOp.Eq _ (Expr.Tuple _ _ _) _ _ _); refine ec_eqD ?_)
  | ((with_reducible show ec _ CmpOp.NotEq _ (Expr.List _ _) _ _ _); refine ec_neD ?_) | ((with_reducible show ec _ CmpOp.NotEq _ (Expr.Tuple _ _ _) _ _ _); refine ec_neD ?_)
  | ((with_reducible show ec _ CmpOp.Eq _ (Expr.Constant (Const.str _) _ _) _ _ _); refine ec_eqT ?_) | ((with_reducible show ec _ CmpOp.NotEq _ (Expr.Constant (Const.str _) _ _) _ _ _); refine ec_neT ?_)
  | ((with_reducible show ec _ CmpOp.Eq _ _ _ _ _); refine ec_eqI ?_)
  | ((with_reducible show ec _ CmpOp.NotEq _ _ _ _ _); refine ec_neI ?_)
  | ((with_reducible show ec _ CmpOp.Is _ _ _ _ _); refine ec_isN ?_)
  | ((with_reducible show ec _ CmpOp.IsNot _ _ _ _ _); refine ec_notN ?_))
local macro_rules | `(tactic| walk_at "zt") => `(tactic| first
  | ((with_reducible show et _ (Expr.Compare _ [_] _ _) _ _ _); refine et_cmp ?_)
  | ((with_reducible show et _ (Expr.Compare _ [_, _] _ _) _ _ _); refine et_chain rfl rfl ?_)
  | ((with_reducible show et _ (Expr.UnaryOp UnaryOp.Not _ _) _ _ _); refine et_not ?_)
  | ((with_reducible show et _ (Expr.BoolOp _ _ _) _ _ _); refine et_bo ?_)
  | refine et_val (by intro _ _; rfl) ?_)
local macro_rules | `(tactic| walk_at "zw") => `(tactic| first
  | ((with_reducible show ew _ (Expr.BoolOp BoolOp.And [_] _) _ _ _); refine ew_and1 ?_)
  | ((with_reducible show ew _ (Expr.BoolOp BoolOp.Or [_] _) _ _ _); refine ew_or1 ?_)
  | ((with_reducible show ew _ (Expr.BoolOp BoolOp.And _ _) _ _ _); refine ew_and ?_)
  | ((with_reducible show ew _ (Expr.BoolOp BoolOp.Or _ _) _ _ _); refine ew_or ?_))
local macro_rules | `(tactic| walk_at "zx1") => `(tactic| first
  | ((with_reducible show ex1 _ (Stmt.Assign [Expr.Tuple [Expr.Name _ _, Expr.Name _ _] _ _] (Expr.Tuple [_, _] _ _) _) _ _ _); refine ex1_parA (by walk_at "zat") (by walk_at "zat") (by kernel_rfl) (by kernel_rfl) (by kernel_rfl) (by rfl) (by intro env h; cases env; cases h; rfl) ?_)
  | ((with_reducible show ex1 _ (Stmt.Assign _ _ _) _ _ _); refine ex1_asg ?_)
  | ((with_reducible show ex1 _ (Stmt.Return (some _) _) _ _ _); refine ex1_ret ?_)
  | ((with_reducible show ex1 _ (Stmt.Return none _) _ _ _); refine ex1_retN ?_)
  | ((with_reducible show ex1 _ (Stmt.If _ _ _ _) _ _ _); refine ex1_if ?_)
  | ((with_reducible show ex1 _ (Stmt.Expr _ _) _ _ _); refine ex1_expr ?_)
  | ((with_reducible show ex1 _ (Stmt.Pass _) _ _ _); refine ex1_pass ?_)
  | ((with_reducible show ex1 _ (Stmt.Continue _) _ _ _); refine ex1_cont ?_)
  | ((with_reducible show ex1 _ (Stmt.Break _) _ _ _); refine ex1_break ?_))
local macro_rules | `(tactic| walk_at "zn") => `(tactic| ((try simp only [List.length_cons, List.length_nil]); decide))
local macro_rules | `(tactic| walk_at "zd") => `(tactic| first | rfl | omega | (simp; done))
local macro_rules | `(tactic| walk_at "zi") => `(tactic| first
  | (refine br_t ?_) | (refine br_f ?_)
  | (refine br_dec (fun _ => ?_) (fun h => absurd (by walk_at "zd") h)) | (refine br_dec (fun h => absurd h (by walk_at "zd")) (fun _ => ?_))
  | (refine br_ndec (fun h => absurd (by walk_at "zd") h) (fun _ => ?_)) | (refine br_ndec (fun _ => ?_) (fun h => absurd h (by walk_at "zd"))))
local macro_rules | `(tactic| walk_at "zl") => `(tactic| first
  | (refine ⟨_, _, _, seqL, rfl, rfl, ?_⟩) | (refine ⟨_, _, _, seqT', rfl, rfl, ?_⟩)
  | (refine ⟨_, ⟨_, rfl, rfl⟩, ?_⟩) | (refine ⟨_, ⟨_, _, rfl, rfl⟩, ?_⟩) | (refine ⟨_, ⟨_, _, _, rfl, rfl⟩, ?_⟩)
  | (refine ⟨by (show (_ : Nat) ≤ sizeLine); (simp only [List.length_cons, List.length_nil]); decide, ?_⟩)
  | (refine ⟨_, rfl, by walk_at "zn", by walk_at "zn", by walk_at "zn", ?_⟩)
  | (with_reducible refine ⟨_, .inl rfl, ?_⟩) | (with_reducible refine ⟨div2 _, ?_⟩) | (refine ⟨mulB (by assumption) (by assumption), ?_⟩)
  | (with_reducible refine ⟨_, seqL, ?_⟩) | (with_reducible refine ⟨_, seqT', ?_⟩)
  | (refine ⟨_, _, _, rfl, rfl, rfl, ?_⟩) | (with_reducible refine ⟨_, _, rfl, rfl, ?_⟩) | (with_reducible refine ⟨_, rfl, ?_⟩) | (with_reducible refine ⟨rfl, ?_⟩)
  | (refine ⟨_, _, _, seqO (by assumption), rfl, rfl, ?_⟩) | (refine ⟨_, _, _, _, rfl, rfl, by assumption, rfl, ?_⟩))
local macro_rules | `(tactic| walk_at "z") => `(tactic| first
  | ((with_reducible show ev _ _ _ _ _); walk_at "ze")
  | ((with_reducible show ec _ _ _ _ _ _ _); walk_at "zc")
  | ((with_reducible show et _ _ _ _ _); walk_at "zt")
  | ((with_reducible show eo _ none _ _ _); refine eo_none ?_) | ((with_reducible show eo _ (some _) _ _ _); refine eo_some ?_)
  | ((with_reducible show ew _ _ _ _ _); walk_at "zw")
  | ((with_reducible show eg _ (Expr.Name _ _) _ _ _ _); refine eg_nm (by walk_at "zat") (by kernel_rfl) (by kernel_rfl) (by walk_at "zs") ?_)
  | ((with_reducible show eg _ (Expr.Subscript _ _ _) _ _ _ _); refine eg_sub ?_)
  | ((with_reducible show eg _ (Expr.Tuple _ _ _) _ _ _ _); first | refine eg_tup rfl ?_ | refine eg_lst rfl ?_)
  | ((with_reducible show egs _ (_ :: _) _ _ _ _); refine ⟨_, _, rfl, ?_⟩) | ((with_reducible show egs _ [] _ _ _ _); refine ⟨rfl, ?_⟩)
  | ((with_reducible show ea _ (_ :: _) _ _ _); refine ea_cons ?_)
  | ((with_reducible show ea _ [] _ _ _); refine ea_nil ?_)
  | ((with_reducible show forU _ _ _ _ [] _ _); refine forU_nil ?_) | ((with_reducible show forU _ _ _ _ (_ :: _) _ _); refine forU_cons ?_)
  | ((with_reducible show lcU _ _ _ _ _ _ [] _ _); refine lcU_nil ?_) | ((with_reducible show lcU _ _ _ _ _ _ (_ :: _) _ _); refine lcU_cons (by walk_at "zs") (by intro _; ((dsimp only [List.nil_append, List.cons_append]); try exact rfl)) ?_)
  | ((with_reducible show lcT _ _ _ _ _ _ _ _ [] _ _); refine lcT_nil ?_)
  | ((with_reducible show lcT _ _ _ (Expr.Name _ _) _ _ _ _ (_ :: _) _ _); refine lcT_one (by kernel_rfl) (by walk_at "zat") (by kernel_rfl) (by kernel_rfl) (by walk_at "zs") (by intro _; ((dsimp only [List.nil_append, List.cons_append]); try exact rfl)) ?_)
  | ((with_reducible show lcT _ _ _ (Expr.Tuple _ _ _) _ _ _ _ (_ :: _) _ _); refine lcT_two (by kernel_rfl) (by walk_at "zat") (by walk_at "zat") (by kernel_rfl) (by kernel_rfl) (by kernel_rfl) (by kernel_rfl) (by walk_at "zs") (by intro _; ((dsimp only [List.nil_append, List.cons_append]); try exact rfl)) ?_)
  | ((with_reducible show ets _ [] _ _ _); refine ets_nil ?_) | ((with_reducible show ets _ [_] _ _ _); refine ets_one ?_)
  | ((with_reducible show ex _ _ _ _ _); first | (with_reducible refine ex_nil ?_) | refine ex_cons ?_)
  | ((with_reducible show ex1 _ _ _ _ _); walk_at "zx1")
  | ((with_reducible show if _ then _ else _); walk_at "zi")
  | walk_at "zl")
local macro_rules | `(tactic| walk_at "zq") => `(tactic| first
  | ((with_reducible show ev _ _ _ _ _); walk_at "ze")
  | ((with_reducible show ec _ _ _ _ _ _ _); walk_at "zc")
  | ((with_reducible show et _ _ _ _ _); walk_at "zt")
  | ((with_reducible show eo _ none _ _ _); refine eo_none ?_) | ((with_reducible show eo _ (some _) _ _ _); refine eo_some ?_)
  | ((with_reducible show ew _ _ _ _ _); walk_at "zw")
  | ((with_reducible show eg _ (Expr.Name _ _) _ _ _ _); refine eg_nm (by walk_at "zat") (by kernel_rfl) (by kernel_rfl) (by walk_at "zs") ?_)
  | ((with_reducible show eg _ (Expr.Subscript _ _ _) _ _ _ _); refine eg_sub ?_)
  | ((with_reducible show eg _ (Expr.Tuple _ _ _) _ _ _ _); first | refine eg_tup rfl ?_ | refine eg_lst rfl ?_)
  | ((with_reducible show egs _ (_ :: _) _ _ _ _); refine ⟨_, _, rfl, ?_⟩) | ((with_reducible show egs _ [] _ _ _ _); refine ⟨rfl, ?_⟩)
  | ((with_reducible show ea _ (_ :: _) _ _ _); refine ea_cons ?_)
  | ((with_reducible show ea _ [] _ _ _); refine ea_nil ?_)
  | ((with_reducible show forU _ _ _ _ [] _ _); refine forU_nil ?_) | ((with_reducible show forU _ _ _ _ (_ :: _) _ _); refine forU_cons ?_)
  | ((with_reducible show lcU _ _ _ _ _ _ [] _ _); refine lcU_nil ?_) | ((with_reducible show lcU _ _ _ _ _ _ (_ :: _) _ _); refine lcU_cons (by walk_at "zs") (by intro _; ((dsimp only [List.nil_append, List.cons_append]); try exact rfl)) ?_)
  | ((with_reducible show lcT _ _ _ _ _ _ _ _ [] _ _); refine lcT_nil ?_)
  | ((with_reducible show lcT _ _ _ (Expr.Name _ _) _ _ _ _ (_ :: _) _ _); refine lcT_one (by kernel_rfl) (by walk_at "zat") (by kernel_rfl) (by kernel_rfl) (by walk_at "zs") (by intro _; ((dsimp only [List.nil_append, List.cons_append]); try exact rfl)) ?_)
  | ((with_reducible show lcT _ _ _ (Expr.Tuple _ _ _) _ _ _ _ (_ :: _) _ _); refine lcT_two (by kernel_rfl) (by walk_at "zat") (by walk_at "zat") (by kernel_rfl) (by kernel_rfl) (by kernel_rfl) (by kernel_rfl) (by walk_at "zs") (by intro _; ((dsimp only [List.nil_append, List.cons_append]); try exact rfl)) ?_)
  | ((with_reducible show ets _ [] _ _ _); refine ets_nil ?_) | ((with_reducible show ets _ [_] _ _ _); refine ets_one ?_)
  | ((with_reducible show ex _ _ _ _ _); first | (with_reducible refine ex_nil ?_) | refine ex_cons ?_)
  | ((with_reducible show if _ then _ else _); walk_at "zi")
  | ((with_reducible show ∃ _, _); walk_at "zl") | ((with_reducible show _ ∧ _); walk_at "zl"))
local macro_rules | `(tactic| walk_at "zv") => `(tactic| repeat (walk_at "zq"))
local macro_rules | `(tactic| walk_at "zz") => `(tactic| repeat (walk_at "z"))
local macro_rules | `(tactic| walk_at "zfor") => `(tactic| first
  | (refine ex1_forU ?_; refine ei_lst ?_; walk_at "z"; refine ⟨_, .inl rfl, ?_⟩)
  | (refine ex1_forU ?_; refine ei_tup ?_; walk_at "z"; refine ⟨_, .inl rfl, ?_⟩))
local macro_rules | `(tactic| walk_at "zlc") => `(tactic| first
  | ((with_reducible show ev _ (Expr.ListComp _ [⟨Expr.Name _ _, _, _, _⟩] _ _) _ _ _); refine lcE1 (by kernel_rfl) (by walk_at "zat") (by kernel_rfl) (by kernel_rfl) (Nat.le_of_ble_eq_true (by rfl)) ?_)
  | (refine lcE2 (by kernel_rfl) (by walk_at "zat") (by walk_at "zat") (by kernel_rfl) (by kernel_rfl) (by kernel_rfl) (Nat.le_of_ble_eq_true (by rfl)) ?_))
local macro_rules | `(tactic| walk_at "zset") => `(tactic| first
  | (refine ex1_asgS (by intro env h; cases env; cases h; rfl) ?_; walk_at "zlc")
  | ((with_reducible show ex1 _ (Stmt.Assign _ (Expr.ListComp _ [⟨Expr.Name _ _, _, _, _⟩] _ _) _) _ _ _); refine lcS1 (by kernel_rfl) (by walk_at "zat") (by kernel_rfl) (by walk_at "zat") (by kernel_rfl) (by kernel_rfl) (Nat.le_of_ble_eq_true (by rfl)) (by intro env h; cases env; cases h; rfl) ?_)
  | (refine lcS2 (by kernel_rfl) (by walk_at "zat") (by kernel_rfl) (by walk_at "zat") (by walk_at "zat") (by kernel_rfl) (by kernel_rfl) (by kernel_rfl) (Nat.le_of_ble_eq_true (by rfl)) (by intro env h; cases env; cases h; rfl) ?_))
local macro_rules | `(tactic| walk_at "zlcM") => `(tactic| first
  | ((with_reducible show ev _ (Expr.ListComp _ [⟨Expr.Name _ _, _, _, _⟩] _ _) _ _ _); refine lcE1M (by kernel_rfl) (by walk_at "zat") (by kernel_rfl) (by kernel_rfl) (Nat.le_of_ble_eq_true (by rfl)) ?_)
  | (refine lcE2M (by kernel_rfl) (by walk_at "zat") (by walk_at "zat") (by kernel_rfl) (by kernel_rfl) (by kernel_rfl) (Nat.le_of_ble_eq_true (by rfl)) ?_))
local macro_rules | `(tactic| walk_at "zsetM") => `(tactic| first
  | (refine ex1_asgS (by intro env h; cases env; cases h; rfl) ?_; walk_at "zlcM")
  | ((with_reducible show ex1 _ (Stmt.Assign _ (Expr.ListComp _ [⟨Expr.Name _ _, _, _, _⟩] _ _) _) _ _ _); refine lcS1M (by kernel_rfl) (by walk_at "zat") (by kernel_rfl) (by walk_at "zat") (by kernel_rfl) (by kernel_rfl) (Nat.le_of_ble_eq_true (by rfl)) (by intro env h; cases env; cases h; rfl) ?_)
  | (refine lcS2M (by kernel_rfl) (by walk_at "zat") (by kernel_rfl) (by walk_at "zat") (by walk_at "zat") (by kernel_rfl) (by kernel_rfl) (by kernel_rfl) (Nat.le_of_ble_eq_true (by rfl)) (by intro env h; cases env; cases h; rfl) ?_))
local macro_rules | `(tactic| walk_at "zfm") => `(tactic| refine lcT_fm _ (by kernel_rfl) (by walk_at "zat") (by kernel_rfl) (by kernel_rfl) (by intro _; walk_at "zs") ?_ ?_)
local macro_rules | `(tactic| walk_at "zvals") => `(tactic| first
  | (refine ex1_asgS (by intro env h; cases env; cases h; rfl) ?_; refine ev_lcV1 (by assumption) (by kernel_rfl) (by walk_at "zat") (by kernel_rfl) (by rfl) (by walk_at "zat") (by kernel_rfl) (by kernel_rfl) (Nat.le_of_ble_eq_true (by rfl)) (by kernel_rfl) ?_)
  | refine ex1_setLcV1 (by assumption) (by kernel_rfl) (by walk_at "zat") (by kernel_rfl) (by rfl) (by walk_at "zat") (by kernel_rfl) (by walk_at "zat") (by kernel_rfl) (by kernel_rfl) (Nat.le_of_ble_eq_true (by rfl)) (by kernel_rfl) (by intro env h; cases env; cases h; rfl) ?_)
local macro_rules | `(tactic| walk_at "zu") => `(tactic| repeat ((fail_if_success (with_reducible show ex1 _ _ _ _ _)); walk_at "z"))
section
variable {P : Program} {w : World} {K : Frag} {mg : Str → Option Value} {base : Heap}
/-- the greatest common divisor, as the program walks it -/
def gcdI (a b : Int) : Int := (Int.gcd a b : Nat)
abbrev spCommon : SpD := pureSp fun ds d => ∃ a b : Int, ds = [.int a, .int b] ∧ d = .int (gcdI a b)
theorem gcdI_step {a b : Int} (ha : 0 ≤ a) (hb : 0 ≤ b) : gcdI b (a % b) = gcdI a b := by
  obtain ⟨m, rfl⟩ := Int.eq_ofNat_of_zero_le ha
  obtain ⟨n, rfl⟩ := Int.eq_ofNat_of_zero_le hb
  unfold gcdI
  rw [← Int.natCast_emod, Int.gcd_natCast_natCast, Int.gcd_natCast_natCast, Nat.gcd_comm n, ← Nat.gcd_rec, Nat.gcd_comm]
theorem gcdI_abs (a b : Int) : gcdI (if a < 0 then -a else a) (if b < 0 then -b else b) = gcdI a b := by
  unfold gcdI
  split <;> split <;> simp
theorem gcdI_zero {a : Int} (h : 0 ≤ a) : gcdI a 0 = a := by
  unfold gcdI
  simp
  omega
set_option maxHeartbeats 1000000 in
theorem ok_common (T : Txt K mg) : Fn P w K mg base 1 "common" spCommon := by
  obtain ⟨fd, F⟩ := T.says.def_ i_common (d := d_common) rfl
  refine fn_ok F (T.glo "common" (by kernel_rfl)) (F.bindsN fun _ _ _ _ _ _ us hl => match us, hl with | [_, _], _ => rfl) sc_common (mono_pure _) ?_
  rintro ds Θ Post ⟨d, ⟨a, b, rfl, rfl⟩, h⟩
  refine ⟨rfl, ?_⟩
  show ex _ _ [some (.int a), some (.int b)] _ _
  walk_at "zz"
  refine (ex1_while (fun Γ1 Θ1 => ∃ i j : Int, Γ1 = [some (.int i), some (.int j)] ∧ 0 ≤ i ∧ 0 ≤ j ∧ gcdI i j = gcdI a b ∧ Θ1 = Θ) (fun Γ1 _ => match Γ1 with | [_, some (.int j)] => j.toNat | _ => 0) ⟨_, _, rfl, by split <;> omega, by split <;> omega, gcdI_abs a b, rfl⟩ ?_)
  rintro Γ1 Θ1 ⟨i, j, rfl, hi, hj, hg, rfl⟩
  walk_at "zz"
  refine br_ndec (fun hn => ?_) (fun hn => ?_)
  · walk_at "z"
    walk_at "zz"
    have hp : 0 < j := by omega
    refine ⟨hp, ?_⟩
    walk_at "zz"
    exact ⟨⟨_, _, rfl, hj, Int.emod_nonneg _ hn, by rw [gcdI_step hi hj]; exact hg, rfl⟩, by show (i % j).toNat < j.toNat; have := Int.emod_lt_of_pos i hp; have := Int.emod_nonneg i hn; omega⟩
  · walk_at "zz"
    subst hn
    rw [gcdI_zero hi] at hg
    rw [hg]
    exact fin h
abbrev spIsNumber : SpD := pureSp fun ds d => ∃ a : Int, ds = [.int a] ∧ d = .bl true
set_option maxHeartbeats 1000000 in
theorem ok_is_number (T : Txt K mg) : Fn P w K mg base 1 "is_number" spIsNumber := by
  obtain ⟨fd, F⟩ := T.says.def_ i_is_number (d := d_is_number) rfl
  refine fn_ok F (T.glo "is_number" (by kernel_rfl)) (F.bindsN fun _ _ _ _ _ _ us hl => match us, hl with | [_], _ => rfl) sc_is_number (mono_pure _) ?_
  rintro ds Θ Post ⟨d, ⟨a, rfl, rfl⟩, h⟩
  refine ⟨rfl, ?_⟩
  show ex _ _ [some (.int a)] _ _
  walk_at "zz"
  exact fin h
abbrev frD (v : Int × Int) : Da := .tup [.int v.1, .int v.2]
/-- a fraction in its lowest form -/
def Low (v : Int × Int) : Prop := 0 < v.2 ∧ gcdI v.1 v.2 = 1
abbrev spIsFraction : SpD := pureSp fun ds d => ∃ a b : Int, ds = [frD (a, b)] ∧ Low (a, b) ∧ d = .bl true
set_option maxHeartbeats 1000000 in
theorem ok_is_fraction (T : Txt K mg) : Fn P w K mg base 2 "is_fraction" spIsFraction := by
  have F1 : Fn P w K mg base 1 "is_number" spIsNumber := ok_is_number T
  have F2 : Fn P w K mg base 1 "common" spCommon := ok_common T
  obtain ⟨fd, F⟩ := T.says.def_ i_is_fraction (d := d_is_fraction) rfl
  refine fn_ok F (T.glo "is_fraction" (by kernel_rfl)) (F.bindsN fun _ _ _ _ _ _ us hl => match us, hl with | [_], _ => rfl) sc_is_fraction (mono_pure _) ?_
  rintro ds Θ Post ⟨d, ⟨a, b, rfl, ⟨l1, l2⟩, rfl⟩, h⟩
  refine ⟨rfl, ?_⟩
  show ex _ _ [some (.tup [.int a, .int b])] _ _
  replace l1 : 0 < b := l1
  replace l2 : gcdI a b = 1 := l2
  walk_at "zz"
  have e : decide (gcdI a b = 1) = true := decide_eq_true l2
  rw [e]
  exact fin h
abbrev spNeedFraction : SpD := pureSp fun ds d => ∃ a b : Int, ds = [frD (a, b)] ∧ Low (a, b) ∧ d = .non
set_option maxHeartbeats 1000000 in
theorem ok_need_fraction (T : Txt K mg) : Fn P w K mg base 3 "need_fraction" spNeedFraction := by
  have F1 : Fn P w K mg base 2 "is_fraction" spIsFraction := ok_is_fraction T
  obtain ⟨fd, F⟩ := T.says.def_ i_need_fraction (d := d_need_fraction) rfl
  refine fn_ok F (T.glo "need_fraction" (by kernel_rfl)) (F.bindsN fun _ _ _ _ _ _ us hl => match us, hl with | [_], _ => rfl) sc_need_fraction (mono_pure _) ?_
  rintro ds Θ Post ⟨d, ⟨a, b, rfl, l, rfl⟩, h⟩
  refine ⟨rfl, ?_⟩
  show ex _ _ [some (frD (a, b))] _ _
  walk_at "zz"
  refine ⟨_, ⟨a, b, rfl, l, rfl⟩, ?_⟩
  walk_at "zz"
  exact finN h
/-- top / bottom in its lowest form -/
def madeP (a b : Int) : Int × Int := let g := if b < 0 then -gcdI a b else gcdI a b; (a.fdiv g, b.fdiv g)
abbrev spMade : SpD := pureSp fun ds d => ∃ a b : Int, ds = [.int a, .int b] ∧ (b ≠ 0 ∧ Bd 400 b) ∧ d = frD (madeP a b)
theorem divZ {g : Int} {n : Nat} (h0 : g ≠ 0) (h : Bd n g) (hn : n ≤ 9000) : CDivZ 0 g := by
  refine ⟨h0, ?_⟩
  have : g.natAbs.log2 < n := (Nat.log2_lt (by omega)).mpr h
  omega
theorem bd_gcd {a b : Int} {n : Nat} (h0 : b ≠ 0) (h : Bd n b) : gcdI a b ≠ 0 ∧ Bd n (gcdI a b) := by
  have h1 : Int.gcd a b ≠ 0 := fun e => h0 (Int.gcd_eq_zero_iff.mp e).2
  have h2 : Int.gcd a b ≤ b.natAbs := Nat.le_of_dvd (by omega) (Int.gcd_dvd_natAbs_right _ _)
  unfold gcdI Bd at *
  exact ⟨by omega, by simp; omega⟩
set_option maxHeartbeats 1000000 in
theorem ok_made (T : Txt K mg) : Fn P w K mg base 2 "made" spMade := by
  have F1 : Fn P w K mg base 1 "common" spCommon := ok_common T
  obtain ⟨fd, F⟩ := T.says.def_ i_made (d := d_made) rfl
  refine fn_ok F (T.glo "made" (by kernel_rfl)) (F.bindsN fun _ _ _ _ _ _ us hl => match us, hl with | [_, _], _ => rfl) sc_made (mono_pure _) ?_
  rintro ds Θ Post ⟨d, ⟨a, b, rfl, ⟨h0, hb⟩, rfl⟩, h⟩
  refine ⟨rfl, ?_⟩
  show ex _ _ [some (.int a), some (.int b), none] _ _
  have hg := bd_gcd (a := a) h0 hb
  walk_at "zz"
  refine br_dec (fun hn => ?_) (fun hn => ?_)
  · walk_at "zz"
    have hd : ∀ x : Int, CDivZ x (-gcdI a b) := fun x => divZ (g := -gcdI a b) (by omega) (by unfold Bd at *; omega) (by decide : 400 ≤ 9000)
    refine ⟨hd _, ?_⟩
    walk_at "zz"
    refine ⟨hd _, ?_⟩
    walk_at "zz"
    unfold madeP at h
    rw [if_pos hn] at h
    exact fin h
  · walk_at "zz"
    have hd : ∀ x : Int, CDivZ x (gcdI a b) := fun x => divZ (g := gcdI a b) (by omega) hg.2 (by decide : 400 ≤ 9000)
    refine ⟨hd _, ?_⟩
    walk_at "zz"
    refine ⟨hd _, ?_⟩
    walk_at "zz"
    unfold madeP at h
    rw [if_neg hn] at h
    exact fin h
abbrev spLowest : SpD := pureSp fun ds d => ∃ a b : Int, ds = [.int a, .int b] ∧ (b ≠ 0 ∧ Bd 400 b) ∧ d = frD (madeP a b)
set_option maxHeartbeats 1000000 in
theorem ok_lowest (T : Txt K mg) : Fn P w K mg base 3 "lowest" spLowest := by
  have F1 : Fn P w K mg base 1 "is_number" spIsNumber := ok_is_number T
  have F2 : Fn P w K mg base 2 "made" spMade := ok_made T
  obtain ⟨fd, F⟩ := T.says.def_ i_lowest (d := d_lowest) rfl
  obtain ⟨dsD, hvD, hbD⟩ := F.binds1 (ps := ["top", "bottom"]) 2 1 (by intro e; cases e) rfl (fun _ _ _ _ _ _ _ us its h1 h2 => match us, its, h1, h2 with | [_, _], [_], _, _ => ⟨_, rfl, rfl⟩)
  cases hvD
  refine fn_ok F (T.glo "lowest" (by kernel_rfl)) hbD sc_lowest (mono_pure _) ?_
  rintro ds Θ Post ⟨d, ⟨a, b, rfl, ⟨h0, hb⟩, rfl⟩, h⟩
  refine ⟨rfl, ?_⟩
  show ex _ _ [some (.int a), some (.int b), none] _ _
  walk_at "z"
  refine ex1_forU (ei_tup ?_)
  walk_at "zz"
  refine ⟨_, ⟨a, b, rfl, ⟨h0, hb⟩, rfl⟩, ?_⟩
  exact fin h
abbrev spSignOf : SpD := pureSp fun ds d => ∃ a b c e : Int, ds = [frD (a, b), frD (c, e)] ∧ (Low (a, b) ∧ Low (c, e) ∧ Bd 400 a ∧ Bd 400 b ∧ Bd 400 c ∧ Bd 400 e) ∧ d = .int ((if c * b < a * e then 1 else 0) - (if a * e < c * b then 1 else 0))
theorem mulW {a b : Int} (ha : Bd 400 a) (hb : Bd 400 b) : CMulW a b := mulB ha hb
set_option maxHeartbeats 1000000 in
theorem ok_sign_of (T : Txt K mg) : Fn P w K mg base 4 "sign_of" spSignOf := by
  have F1 : Fn P w K mg base 3 "need_fraction" spNeedFraction := ok_need_fraction T
  obtain ⟨fd, F⟩ := T.says.def_ i_sign_of (d := d_sign_of) rfl
  refine fn_ok F (T.glo "sign_of" (by kernel_rfl)) (F.bindsN fun _ _ _ _ _ _ us hl => match us, hl with | [_, _], _ => rfl) sc_sign_of (mono_pure _) ?_
  rintro ds Θ Post ⟨d, ⟨a, b, c, e, rfl, ⟨l1, l2, h1, h2, h3, h4⟩, rfl⟩, h⟩
  refine ⟨rfl, ?_⟩
  show ex _ _ [some (.tup [.int a, .int b]), some (.tup [.int c, .int e]), none, none] _ _
  walk_at "zz"
  refine ⟨_, ⟨a, b, rfl, l1, rfl⟩, ?_⟩
  walk_at "zz"
  refine ⟨_, ⟨c, e, rfl, l2, rfl⟩, ?_⟩
  walk_at "zz"
  simp only [decide_eq_true_eq]
  exact fin h
theorem eqv2 (a b c e : Int) : PyData.eqv (.tuple [.int a, .int b]) (.tuple [.int c, .int e]) = (decide (a = c) && decide (b = e)) := by
  simp [PyData.eqv, PyData.eqvAll]
  rfl
abbrev spValueOf : SpD := pureSp fun ds d => ∃ a b : Int, ds = [frD (a, b)] ∧ (Bd 400 b ∧ (b = 0 → a = 0)) ∧ d = if b = 0 then .non else frD (madeP a b)
set_option maxHeartbeats 1000000 in
theorem ok_value_of (T : Txt K mg) : Fn P w K mg base 4 "value_of" spValueOf := by
  have F1 : Fn P w K mg base 3 "lowest" spLowest := ok_lowest T
  obtain ⟨fd, F⟩ := T.says.def_ i_value_of (d := d_value_of) rfl
  refine fn_ok F (T.glo "value_of" (by kernel_rfl)) (F.bindsN fun _ _ _ _ _ _ us hl => match us, hl with | [_], _ => rfl) sc_value_of (mono_pure _) ?_
  rintro ds Θ Post ⟨d, ⟨a, b, rfl, ⟨hb, hz⟩, rfl⟩, h⟩
  refine ⟨rfl, ?_⟩
  show ex _ _ [some (.tup [.int a, .int b])] _ _
  walk_at "z"
  refine ex1_if (et_cmp (ec_eqD ?_))
  walk_at "zz"
  rw [eqv2]
  refine br_b (fun hk => ?_) (fun hk => ?_)
  · have e : a = 0 ∧ b = 0 := by simpa using hk
    obtain ⟨rfl, rfl⟩ := e
    walk_at "zz"
    exact fin h
  · have e : ¬ (a = 0 ∧ b = 0) := by simpa using hk
    have h0 : b ≠ 0 := fun q => e ⟨hz q, q⟩
    walk_at "zz"
    refine ⟨_, ⟨a, b, rfl, ⟨h0, hb⟩, rfl⟩, ?_⟩
    rw [if_neg h0] at h
    exact fin h
end
/-! ## K95B -/
section
variable {P : Program} {w : World} {K : Frag} {mg : Str → Option Value} {base : Heap}
theorem hlf2 {x y : Da} : ((([x, y].length : Nat) : Int)).fdiv 2 = 1 := by kernel_rfl
theorem hlf4 {x y z u : Da} : ((([x, y, z, u].length : Nat) : Int)).fdiv 2 = 2 := by kernel_rfl
def at1 (f : Int × Int) (v : Int × Int) : Int := v.1 * f.1 + v.2 * f.2
abbrev spFormAt : SpD := pureSp fun ds d => (∃ a b p q x, ds = [.lst [.int a, .int b], x] ∧ (x = .lst [frD (p, q)] ∨ x = .tup [frD (p, q)]) ∧ (Bd 200 a ∧ Bd 200 b ∧ Bd 200 p ∧ Bd 200 q) ∧ d = .int (p * a + q * b)) ∨
  ∃ a b c e p q r s x, ds = [.lst [.int a, .int b, .int c, .int e], x] ∧ (x = .lst [frD (p, q), frD (r, s)] ∨ x = .tup [frD (p, q), frD (r, s)]) ∧ (Bd 200 a ∧ Bd 200 b ∧ Bd 200 c ∧ Bd 200 e ∧ Bd 200 p ∧ Bd 200 q ∧ Bd 200 r ∧ Bd 200 s) ∧ d = .int (r * (p * a + q * c) + s * (p * b + q * e))
set_option maxHeartbeats 1000000 in
theorem ok_form_at (T : Txt K mg) : Fn P w K mg base 1 "form_at" spFormAt := by
  obtain ⟨fd, F⟩ := T.says.def_ i_form_at (d := d_form_at) rfl
  refine fn_ok F (T.glo "form_at" (by kernel_rfl)) (F.bindsN fun _ _ _ _ _ _ us hl => match us, hl with | [_, _], _ => rfl) sc_form_at (mono_pure _) ?_
  rintro ds Θ Post ⟨d, h', h⟩
  rcases h' with ⟨a, b, p, q, x, rfl, hx, ⟨h1, h2, h3, h4⟩, rfl⟩ | ⟨a, b, c, e, p, q, r, s, x, rfl, hx, ⟨h1, h2, h3, h4, h5, h6, h7, h8⟩, rfl⟩
  · refine ⟨rfl, ?_⟩
    show ex _ _ [some (.lst _), some x, none, none, none, none, none] _ _
    rcases hx with rfl | rfl
    all_goals
      walk_at "zz"
      walk_at "zfor"
      walk_at "zz"
      rw [hlf2]
      walk_at "zset"
      refine ei_range1 (by walk_at "zb") ?_
      walk_at "z"
      refine ⟨_, rfl, by decide, by decide, by decide, ?_⟩
      show lcT _ _ _ _ _ _ _ _ [.int 0] _ _
      walk_at "zz"
      exact fin h
  · refine ⟨rfl, ?_⟩
    have b1 : Bd 401 (p * a + q * c) := bd_add (bd_mul h5 h1) (bd_mul h6 h3)
    have b2 : Bd 401 (p * b + q * e) := bd_add (bd_mul h5 h2) (bd_mul h6 h4)
    show ex _ _ [some (.lst _), some x, none, none, none, none, none] _ _
    rcases hx with rfl | rfl
    all_goals
      walk_at "zz"
      walk_at "zfor"
      walk_at "zz"
      rw [hlf4]
      walk_at "zset"
      refine ei_range1 (by walk_at "zb") ?_
      walk_at "z"
      refine ⟨_, rfl, by decide, by decide, by decide, ?_⟩
      show lcT _ _ _ _ _ _ _ _ [.int 0, .int 1] _ _
      walk_at "zz"
      rw [hlf2]
      walk_at "zset"
      refine ei_range1 (by walk_at "zb") ?_
      walk_at "z"
      refine ⟨_, rfl, by decide, by decide, by decide, ?_⟩
      show lcT _ _ _ _ _ _ _ _ [.int 0] _ _
      walk_at "zz"
      exact fin h
end
/-! ## K95C -/
section
variable {P : Program} {w : World} {K : Frag} {mg : Str → Option Value} {base : Heap}
abbrev sdD (p q : Int) (b : Bool) : Da := .tup [frD (p, q), .bl b]
abbrev kL (l : List Int) : Da := .lst (l.map .int)
abbrev spAllowed : SpD := pureSp fun ds d => (∃ p q b, ds = [.lst [sdD p q b]] ∧ d = .lst (if b then [kL [0]] else [])) ∨
  ∃ p q b r s c, ds = [.lst [sdD p q b, sdD r s c]] ∧ d = .lst ((if b then [kL [0]] else []) ++ ((if c then [kL [1]] else []) ++ [kL [0, 1]]))
set_option maxHeartbeats 1000000 in
theorem ok_allowed (T : Txt K mg) : Fn P w K mg base 1 "allowed" spAllowed := by
  obtain ⟨fd, F⟩ := T.says.def_ i_allowed (d := d_allowed) rfl
  refine fn_ok F (T.glo "allowed" (by kernel_rfl)) (F.bindsN fun _ _ _ _ _ _ us hl => match us, hl with | [_], _ => rfl) sc_allowed (mono_pure _) ?_
  rintro ds Θ Post ⟨d, h', h⟩
  rcases h' with ⟨p, q, b, rfl, rfl⟩ | ⟨p, q, b, r, s, c, rfl, rfl⟩
  · refine ⟨rfl, ?_⟩
    show ex _ _ [some (.lst _), none, none, none] _ _
    cases b
    all_goals
      walk_at "z"
      walk_at "zsetM"
      refine ei_enum (by walk_at "zb") ?_
      walk_at "z"
      refine ⟨_, rfl, by show 1 < sizeLine; decide, ?_⟩
      show lcT _ _ _ _ _ _ _ _ [.tup [.int 0, _]] _ _
      walk_at "zz"
      intro q hq
      dsimp only [List.set]
      walk_at "zz"
      exact finF hq h
  · refine ⟨rfl, ?_⟩
    show ex _ _ [some (.lst _), none, none, none] _ _
    cases b <;> cases c
    all_goals
      walk_at "z"
      walk_at "zsetM"
      refine ei_enum (by walk_at "zb") ?_
      walk_at "z"
      refine ⟨_, rfl, by show 2 < sizeLine; decide, ?_⟩
      show lcT _ _ _ _ _ _ _ _ [.tup [.int 0, _], .tup [.int 1, _]] _ _
      walk_at "zz"
      intro q hq
      dsimp only [List.set]
      walk_at "zz"
      refine ev_app (by kernel_rfl) ?_
      walk_at "z"
      refine ⟨_, _, rfl, updS_same, ?_⟩
      walk_at "zz"
      refine ⟨_, updS_same, by show _ < sizeLine; (simp only [List.length_cons, List.length_nil]); decide, ?_⟩
      rw [updS_updS]
      walk_at "zz"
      exact finF hq h
end
/-! ## K95D -/
section
variable {P : Program} {w : World} {K : Frag} {mg : Str → Option Value} {base : Heap}
def crossStep (found : List (List Da)) (row : List Da) : List (List Da) := found.flatMap fun s => row.map fun o => s ++ [o]
def crossedD (rows : List (List Da)) : List (List Da) := rows.foldl crossStep [[]]
structure OkRows (rows : List (List Da)) : Prop where
  n : rows.length ≤ 100
  k : ∀ n, (crossedD (rows.take n)).length ≤ 1000
  r : ∀ r, r ∈ rows → r.length ≤ 1000
theorem cross_take {rows : List (List Da)} {n : Nat} {r : List Da} (h : rows[n]? = some r) : crossedD (rows.take (n + 1)) = crossStep (crossedD (rows.take n)) r := by
  unfold crossedD
  rw [List.take_add_one, h, Option.toList_some, List.foldl_append]
  rfl
theorem cross_len {rows : List (List Da)} : ∀ s, s ∈ crossedD rows → s.length = rows.length := by
  have go : ∀ (rows : List (List Da)) (found : List (List Da)) (k : Nat), (∀ s, s ∈ found → s.length = k) → ∀ s, s ∈ rows.foldl crossStep found → s.length = k + rows.length := by
    intro rows
    induction rows with
    | nil => intro found k h s hs; simpa using h s hs
    | cons r rows ih =>
      intro found k h s hs
      have := ih (crossStep found r) (k + 1) (fun s hs => by
        unfold crossStep at hs
        rw [List.mem_flatMap] at hs
        obtain ⟨t, ht, hs⟩ := hs
        rw [List.mem_map] at hs
        obtain ⟨o, _, rfl⟩ := hs
        rw [List.length_append, h t ht]; rfl) s hs
      rw [List.length_cons]
      omega
  intro s hs
  have := go rows [[]] 0 (fun s hs => by rw [List.mem_singleton] at hs; subst hs; rfl) s hs
  omega
theorem cross_snoc {F : List (List Da)} {r : List Da} {m : Nat} {s : List Da} (h : F[m]? = some s) : crossStep (F.take (m + 1)) r = crossStep (F.take m) r ++ r.map fun o => s ++ [o] := by
  unfold crossStep
  rw [List.take_add_one, h, Option.toList_some, List.flatMap_append]
  simp
theorem cross_snoc' {F : List (List Da)} {r : List Da} {m : Nat} {s : List Da} (h : F[m]? = some s) : (crossStep (F.take (m + 1)) r).map Da.tup = (crossStep (F.take m) r).map Da.tup ++ r.map fun o => Da.tup (s ++ [o]) := by
  rw [cross_snoc h, List.map_append, List.map_map]
  rfl
theorem cross_mono {F : List (List Da)} {r : List Da} (m : Nat) : (crossStep (F.take m) r).length ≤ (crossStep F r).length := by
  conv => rhs; rw [← List.take_append_drop m F]
  unfold crossStep
  rw [List.flatMap_append, List.length_append]
  omega
theorem cross_fm {s r : List Da} : r.filterMap (fun d => some (Da.tup (s ++ [d]))) = r.map fun o => Da.tup (s ++ [o]) := by
  rw [← List.filterMap_eq_map]; rfl
abbrev spCrossed : SpD := pureSp fun ds d => ∃ (rows : List (List Da)) (x : Da), ds = [x] ∧ (x = .lst (rows.map Da.lst) ∨ x = .tup (rows.map Da.lst)) ∧ OkRows rows ∧ d = .lst ((crossedD rows).map Da.tup)
theorem sz {n : Nat} (h : n ≤ 2000) : n < sizeLine := Nat.lt_of_le_of_lt h (by decide)
set_option maxHeartbeats 1000000 in
theorem ok_crossed (T : Txt K mg) : Fn P w K mg base 1 "crossed" spCrossed := by
  obtain ⟨fd, F⟩ := T.says.def_ i_crossed (d := d_crossed) rfl
  refine fn_ok F (T.glo "crossed" (by kernel_rfl)) (F.bindsN fun _ _ _ _ _ _ us hl => match us, hl with | [_], _ => rfl) sc_crossed (mono_pure _) ?_
  rintro ds Θ Post ⟨d, ⟨rows, x, rfl, hx, ok, rfl⟩, h⟩
  refine ⟨rfl, ?_⟩
  show ex _ _ [some x, none, none, none, none, none] _ _
  walk_at "zz"
  rcases hx with rfl | rfl
  all_goals
    refine ex1_for (fun ds n Γ1 Θ1 => ∃ x0 x1 x2 x3 x4, Γ1 = [x0, some (.lst ((crossedD (rows.take n)).map Da.tup)), x1, x2, x3, x4] ∧ Θ1 = Θ) ?_
    first
      | (refine ei_lst ?_; walk_at "z"; refine ⟨_, .inl rfl, ?_⟩)
      | (refine ei_tup ?_; walk_at "z"; refine ⟨_, .inl rfl, ?_⟩)
    refine ⟨⟨_, _, _, _, _, rfl, rfl⟩, ?_, ?_⟩
    · rintro n d Γ1 Θ1 hd ⟨x0, x1, x2, x3, x4, rfl, rfl⟩
      rw [List.getElem?_map] at hd
      cases hr : rows[n]? with
      | none => rw [hr] at hd; cases hd
      | some r =>
      rw [hr] at hd
      cases hd
      have hl : r.length ≤ 1000 := ok.r r (List.mem_of_getElem? hr)
      have hn : n < rows.length := (List.getElem?_eq_some_iff.mp hr).1
      walk_at "z"
      refine ex_cons (ex1_asg (ev_lstM ?_))
      walk_at "z"
      refine ⟨by decide, fun q hq => ?_⟩
      walk_at "zz"
      refine ex1_for (fun ds m Γ2 Θ2 => ∃ x0 x1 x2, Γ2 = [x0, some (.lst ((crossedD (rows.take n)).map Da.tup)), some (.lst r), some (.obj q), x1, x2] ∧ Θ2 = updS Θ1 q (.lst ((crossStep ((crossedD (rows.take n)).take m) r).map Da.tup))) ?_
      refine ei_lst ?_
      walk_at "z"
      refine ⟨_, .inl rfl, ?_⟩
      refine ⟨⟨_, _, _, rfl, rfl⟩, ?_, ?_⟩
      · rintro m d Γ2 Θ2 hd ⟨x0, x1, x2, rfl, rfl⟩
        rw [List.getElem?_map] at hd
        cases hs : (crossedD (rows.take n))[m]? with
        | none => rw [hs] at hd; cases hd
        | some s =>
        rw [hs] at hd
        cases hd
        have hm : m < (crossedD (rows.take n)).length := (List.getElem?_eq_some_iff.mp hs).1
        have hsl : s.length = (rows.take n).length := cross_len s (List.mem_of_getElem? hs)
        rw [List.length_take] at hsl
        have := ok.n
        walk_at "z"
        refine ex_cons (ex1_expr (ev_extL (by kernel_rfl) ?_))
        walk_at "z"
        refine ⟨_, _, rfl, updS_same, ?_⟩
        refine ev_lc1 (fun d => some (.tup (s ++ [d]))) (by kernel_rfl) (by walk_at "zat") (by kernel_rfl) (by kernel_rfl) (Nat.le_of_ble_eq_true (by rfl)) (ei_lst ?_)
        walk_at "z"
        refine ⟨_, .inl rfl, sz (by omega), ?_, ?_⟩
        · intro d hd
          dsimp only [List.set]
          walk_at "z"
          walk_at "z"
          refine ev_catT ?_
          walk_at "zz"
          exact ⟨by show _ + 1 ≤ _; exact Nat.le_of_lt (sz (by omega)), rfl, rfl⟩
        · refine ⟨_, _, rfl, updS_same, ?_, ?_⟩
          · rw [List.length_map, cross_fm, List.length_map]
            have h1 : (crossStep ((crossedD (rows.take n)).take m) r).length + r.length ≤ 1000 := by
              have := ok.k (n + 1)
              rw [cross_take hr] at this
              have h2 := congrArg List.length (cross_snoc (r := r) hs)
              rw [List.length_append, List.length_map] at h2
              have h3 := cross_mono (r := r) (F := crossedD (rows.take n)) (m + 1)
              omega
            exact Nat.le_of_lt (sz (by omega))
          · rw [updS_updS, cross_fm, ← cross_snoc' (r := r) hs]
            walk_at "zz"
            exact ⟨_, _, _, rfl, rfl⟩
      · rintro Γ2 Θ2 ⟨x0, x1, x2, rfl, rfl⟩
        rw [List.length_map, List.take_length]
        walk_at "z"
        walk_at "z"
        walk_at "z"
        walk_at "z"
        refine ex_frz (i := 1) (by rfl) updS_same ?_
        rw [delS_updS hq, ← cross_take hr]
        walk_at "z"
        exact ⟨_, _, _, _, _, rfl, rfl⟩
    · rintro Γ1 Θ1 ⟨x0, x1, x2, x3, x4, rfl, rfl⟩
      rw [List.length_map, List.take_length]
      walk_at "zz"
      exact fin h
end
/-! ## K95E -/
section
variable {P : Program} {w : World} {K : Frag} {mg : Str → Option Value} {base : Heap}
/-- one side of a cone: its vector, whether it is in -/
structure Sd where
  p : Int
  q : Int
  b : Bool
def Sd.D (s : Sd) : Da := sdD s.p s.q s.b
abbrev Rw := List Sd
def rowD (r : Rw) : Da := .lst (r.map Sd.D)
def sidesD (ss : List Rw) : Da := .lst (ss.map rowD)
def formD (f : List Int) : Da := .lst (f.map Da.int)
def Sd.Ok (s : Sd) : Prop := Bd 200 s.p ∧ Bd 200 s.q
/-- a form at vectors -/
def formP : List Int → List Sd → Int
  | [a, b], [v] => v.p * a + v.q * b
  | [a, b, c, e], [v, u] => u.p * (v.p * a + v.q * c) + u.q * (v.p * b + v.q * e)
  | _, _ => 0
/-- the corners: key, sides -/
def crn1 : Nat → Rw → List (List Int × List Sd)
  | _, [] => []
  | n, s :: r => ([(n : Int)], [s]) :: crn1 (n + 1) r
def crnP : List Rw → List (List Int × List Sd)
  | [r] => crn1 0 r
  | [r, t] => (crn1 0 r).flatMap fun a => (crn1 0 t).map fun b => (a.1 ++ b.1, a.2 ++ b.2)
  | _ => []
def dictP (top bottom : List Int) (ss : List Rw) : List (List Key × Da) := (crnP ss).map fun c => (c.1.map Sum.inl, frD (formP top c.2, formP bottom c.2))
inductive Shape : Nat → List Rw → Prop
  | a (s : Sd) : Shape 2 [[s]]
  | b (s t : Sd) : Shape 2 [[s, t]]
  | c (s u : Sd) : Shape 4 [[s], [u]]
  | d (s t u : Sd) : Shape 4 [[s, t], [u]]
  | e (s u v : Sd) : Shape 4 [[s], [u, v]]
  | f (s t u v : Sd) : Shape 4 [[s, t], [u, v]]
inductive IsForm : Nat → List Int → Prop
  | two {a b : Int} : Bd 200 a → Bd 200 b → IsForm 2 [a, b]
  | four {a b c e : Int} : Bd 200 a → Bd 200 b → Bd 200 c → Bd 200 e → IsForm 4 [a, b, c, e]
abbrev spCornersOf : SpD := fun ds Θ Post => ∃ (n : Nat) (top bottom : List Int) (ss : List Rw), ds = [formD top, formD bottom, sidesD ss] ∧ Shape n ss ∧ IsForm n top ∧ IsForm n bottom ∧ (∀ r, r ∈ ss → ∀ s, s ∈ r → Sd.Ok s) ∧
  ∀ q, Θ q = none → Post (.obj q) (updS Θ q (.dT (dictP top bottom ss)))
theorem mono_corners : Mono spCornersOf := fun _ _ _ _ q ⟨n, t, b, ss, e, h1, h2, h3, h4, h5⟩ => ⟨n, t, b, ss, e, h1, h2, h3, h4, fun z hz => q _ _ (h5 z hz)⟩
theorem zip1 {x y : Da} : zipD [x] [y] = [.tup [x, y]] := rfl
theorem zip2 {x y z u : Da} : zipD [x, y] [z, u] = [.tup [x, z], .tup [y, u]] := rfl
theorem rng1 {x : Da} : rngD 0 (([x].length : Nat) : Int).toNat = [.int 0] := by kernel_rfl
theorem rng2 {x y : Da} : rngD 0 (([x, y].length : Nat) : Int).toNat = [.int 0, .int 1] := by kernel_rfl
theorem okR1 {r : List Da} (h : r.length ≤ 30) : OkRows [r] where
  n := by simp
  k := fun n => by
    cases n with
    | zero => simp [crossedD]
    | succ n =>
      have e : crossedD ([r].take (n + 1)) = r.map fun o => [o] := by simp [crossedD, crossStep]
      rw [e, List.length_map]
      omega
  r := fun s hs => by rw [List.mem_singleton] at hs; subst hs; omega
theorem okR2 {r t : List Da} (h : r.length ≤ 30) (h2 : t.length ≤ 30) : OkRows [r, t] where
  n := by simp
  k := fun n => by
    cases n with
    | zero => simp [crossedD]
    | succ n =>
      cases n with
      | zero =>
        have e : crossedD ([r, t].take 1) = r.map fun o => [o] := by simp [crossedD, crossStep]
        rw [e, List.length_map]
        omega
      | succ n =>
        have e : crossedD ([r, t].take (n + 1 + 1)) = (r.map fun o => [o]).flatMap fun s => t.map fun o => s ++ [o] := by simp [crossedD, crossStep]
        rw [e, List.length_flatMap]
        have : ∀ l : List Da, ((l.map fun o => [o]).map fun s => (t.map fun o => s ++ [o]).length).sum = l.length * t.length := fun l => by
          induction l with
          | nil => simp
          | cons a l ih => simp at ih ⊢; rw [ih, Nat.succ_mul]; omega
        rw [this]
        calc r.length * t.length ≤ 30 * 30 := Nat.mul_le_mul h h2
          _ ≤ 1000 := by decide
  r := fun s hs => by
    simp at hs
    rcases hs with rfl | rfl <;> omega
set_option maxHeartbeats 2000000 in
theorem ok_corners_of (T : Txt K mg) : Fn P w K mg base 2 "corners_of" spCornersOf := by
  have F1 : Fn P w K mg base 1 "form_at" spFormAt := ok_form_at T
  have F2 : Fn P w K mg base 1 "crossed" spCrossed := ok_crossed T
  obtain ⟨fd, F⟩ := T.says.def_ i_corners_of (d := d_corners_of) rfl
  refine fn_ok F (T.glo "corners_of" (by kernel_rfl)) (F.bindsN fun _ _ _ _ _ _ us hl => match us, hl with | [_, _, _], _ => rfl) sc_corners_of (mono_corners) ?_
  rintro ds Θ Post ⟨n, top, bottom, ss, rfl, hs, ht, hb, hok, h⟩
  refine ⟨rfl, ?_⟩
  show ex _ _ [some (formD top), some (formD bottom), some (sidesD ss), none, none, none, none, none] _ _
  cases hs
  · cases ht with
    | @two t0 t1 a0 a1 =>
    cases hb with
    | @two u0 u1 b0 b1 =>
    rename_i s
    obtain ⟨os1, os2⟩ := hok [s] (by simp) s (by simp)
    show ex _ _ [some (.lst [.int t0, .int t1]), some (.lst [.int u0, .int u1]), some (.lst [.lst [sdD s.p s.q s.b]]), none, none, none, none, none] _ _
    walk_at "z"
    refine ex1_asg (ev_dict0 fun q hq => ?_)
    walk_at "zz"
    refine ex1_forU ?_
    refine ei_lst ?_
    walk_at "zz"
    walk_at "zlc"
    refine ei_lst ?_
    repeat (first | walk_at "z" | rw [rng1] | rw [rng2])
    refine ⟨_, ⟨[[.int 0]], _, rfl, .inl rfl, okR1 (by decide), rfl⟩, ?_⟩
    refine ⟨_, .inl rfl, ?_⟩
    show forU _ _ _ _ [.tup [.int 0]] _ _
    repeat (first
      | ((with_reducible show ex1 _ (Stmt.Assign [Expr.Subscript _ _ _] _ _) _ _ _); refine ex1_dputN ?_)
      | walk_at "z"
      | (walk_at "zset"; refine ei_zipLT (by walk_at "zb") ?_)
      | (rw [zip1]) | (rw [zip2])
      | (refine ⟨_, .inl ⟨_, _, _, _, _, rfl, .inl rfl, ⟨by assumption, by assumption, by assumption, by assumption⟩, rfl⟩, ?_⟩)
      | (refine ⟨_, .inr ⟨_, _, _, _, _, _, _, _, _, rfl, .inl rfl, ⟨by assumption, by assumption, by assumption, by assumption, by assumption, by assumption, by assumption, by assumption⟩, rfl⟩, ?_⟩)
      | (refine ⟨_, _, _, _, rfl, updS_same, rfl, rfl, by kernel_rfl, by ((dsimp only [List.map, unK, List.nil_append, List.cons_append]); try exact rfl), by walk_at "zn", ?_⟩; rw [updS_updS]))
    exact fin (h q hq)
  · cases ht with
    | @two t0 t1 a0 a1 =>
    cases hb with
    | @two u0 u1 b0 b1 =>
    rename_i s t
    obtain ⟨os1, os2⟩ := hok [s, t] (by simp) s (by simp)
    obtain ⟨ot1, ot2⟩ := hok [s, t] (by simp) t (by simp)
    show ex _ _ [some (.lst [.int t0, .int t1]), some (.lst [.int u0, .int u1]), some (.lst [.lst [sdD s.p s.q s.b, sdD t.p t.q t.b]]), none, none, none, none, none] _ _
    walk_at "z"
    refine ex1_asg (ev_dict0 fun q hq => ?_)
    walk_at "zz"
    refine ex1_forU ?_
    refine ei_lst ?_
    walk_at "zz"
    walk_at "zlc"
    refine ei_lst ?_
    repeat (first | walk_at "z" | rw [rng1] | rw [rng2])
    refine ⟨_, ⟨[[.int 0, .int 1]], _, rfl, .inl rfl, okR1 (by decide), rfl⟩, ?_⟩
    refine ⟨_, .inl rfl, ?_⟩
    show forU _ _ _ _ [.tup [.int 0], .tup [.int 1]] _ _
    repeat (first
      | ((with_reducible show ex1 _ (Stmt.Assign [Expr.Subscript _ _ _] _ _) _ _ _); refine ex1_dputN ?_)
      | walk_at "z"
      | (walk_at "zset"; refine ei_zipLT (by walk_at "zb") ?_)
      | (rw [zip1]) | (rw [zip2])
      | (refine ⟨_, .inl ⟨_, _, _, _, _, rfl, .inl rfl, ⟨by assumption, by assumption, by assumption, by assumption⟩, rfl⟩, ?_⟩)
      | (refine ⟨_, .inr ⟨_, _, _, _, _, _, _, _, _, rfl, .inl rfl, ⟨by assumption, by assumption, by assumption, by assumption, by assumption, by assumption, by assumption, by assumption⟩, rfl⟩, ?_⟩)
      | (refine ⟨_, _, _, _, rfl, updS_same, rfl, rfl, by kernel_rfl, by ((dsimp only [List.map, unK, List.nil_append, List.cons_append]); try exact rfl), by walk_at "zn", ?_⟩; rw [updS_updS]))
    exact fin (h q hq)
  · cases ht with
    | @four t0 t1 t2 t3 a0 a1 a2 a3 =>
    cases hb with
    | @four u0 u1 u2 u3 b0 b1 b2 b3 =>
    rename_i s u
    obtain ⟨os1, os2⟩ := hok [s] (by simp) s (by simp)
    obtain ⟨ou1, ou2⟩ := hok [u] (by simp) u (by simp)
    show ex _ _ [some (.lst [.int t0, .int t1, .int t2, .int t3]), some (.lst [.int u0, .int u1, .int u2, .int u3]), some (.lst [.lst [sdD s.p s.q s.b], .lst [sdD u.p u.q u.b]]), none, none, none, none, none] _ _
    walk_at "z"
    refine ex1_asg (ev_dict0 fun q hq => ?_)
    walk_at "zz"
    refine ex1_forU ?_
    refine ei_lst ?_
    walk_at "zz"
    walk_at "zlc"
    refine ei_lst ?_
    repeat (first | walk_at "z" | rw [rng1] | rw [rng2])
    refine ⟨_, ⟨[[.int 0], [.int 0]], _, rfl, .inl rfl, okR2 (by decide) (by decide), rfl⟩, ?_⟩
    refine ⟨_, .inl rfl, ?_⟩
    show forU _ _ _ _ [.tup [.int 0, .int 0]] _ _
    repeat (first
      | ((with_reducible show ex1 _ (Stmt.Assign [Expr.Subscript _ _ _] _ _) _ _ _); refine ex1_dputN ?_)
      | walk_at "z"
      | (walk_at "zset"; refine ei_zipLT (by walk_at "zb") ?_)
      | (rw [zip1]) | (rw [zip2])
      | (refine ⟨_, .inl ⟨_, _, _, _, _, rfl, .inl rfl, ⟨by assumption, by assumption, by assumption, by assumption⟩, rfl⟩, ?_⟩)
      | (refine ⟨_, .inr ⟨_, _, _, _, _, _, _, _, _, rfl, .inl rfl, ⟨by assumption, by assumption, by assumption, by assumption, by assumption, by assumption, by assumption, by assumption⟩, rfl⟩, ?_⟩)
      | (refine ⟨_, _, _, _, rfl, updS_same, rfl, rfl, by kernel_rfl, by ((dsimp only [List.map, unK, List.nil_append, List.cons_append]); try exact rfl), by walk_at "zn", ?_⟩; rw [updS_updS]))
    exact fin (h q hq)
  · cases ht with
    | @four t0 t1 t2 t3 a0 a1 a2 a3 =>
    cases hb with
    | @four u0 u1 u2 u3 b0 b1 b2 b3 =>
    rename_i s t u
    obtain ⟨os1, os2⟩ := hok [s, t] (by simp) s (by simp)
    obtain ⟨ot1, ot2⟩ := hok [s, t] (by simp) t (by simp)
    obtain ⟨ou1, ou2⟩ := hok [u] (by simp) u (by simp)
    show ex _ _ [some (.lst [.int t0, .int t1, .int t2, .int t3]), some (.lst [.int u0, .int u1, .int u2, .int u3]), some (.lst [.lst [sdD s.p s.q s.b, sdD t.p t.q t.b], .lst [sdD u.p u.q u.b]]), none, none, none, none, none] _ _
    walk_at "z"
    refine ex1_asg (ev_dict0 fun q hq => ?_)
    walk_at "zz"
    refine ex1_forU ?_
    refine ei_lst ?_
    walk_at "zz"
    walk_at "zlc"
    refine ei_lst ?_
    repeat (first | walk_at "z" | rw [rng1] | rw [rng2])
    refine ⟨_, ⟨[[.int 0, .int 1], [.int 0]], _, rfl, .inl rfl, okR2 (by decide) (by decide), rfl⟩, ?_⟩
    refine ⟨_, .inl rfl, ?_⟩
    show forU _ _ _ _ [.tup [.int 0, .int 0], .tup [.int 1, .int 0]] _ _
    repeat (first
      | ((with_reducible show ex1 _ (Stmt.Assign [Expr.Subscript _ _ _] _ _) _ _ _); refine ex1_dputN ?_)
      | walk_at "z"
      | (walk_at "zset"; refine ei_zipLT (by walk_at "zb") ?_)
      | (rw [zip1]) | (rw [zip2])
      | (refine ⟨_, .inl ⟨_, _, _, _, _, rfl, .inl rfl, ⟨by assumption, by assumption, by assumption, by assumption⟩, rfl⟩, ?_⟩)
      | (refine ⟨_, .inr ⟨_, _, _, _, _, _, _, _, _, rfl, .inl rfl, ⟨by assumption, by assumption, by assumption, by assumption, by assumption, by assumption, by assumption, by assumption⟩, rfl⟩, ?_⟩)
      | (refine ⟨_, _, _, _, rfl, updS_same, rfl, rfl, by kernel_rfl, by ((dsimp only [List.map, unK, List.nil_append, List.cons_append]); try exact rfl), by walk_at "zn", ?_⟩; rw [updS_updS]))
    exact fin (h q hq)
  · cases ht with
    | @four t0 t1 t2 t3 a0 a1 a2 a3 =>
    cases hb with
    | @four u0 u1 u2 u3 b0 b1 b2 b3 =>
    rename_i s u v
    obtain ⟨os1, os2⟩ := hok [s] (by simp) s (by simp)
    obtain ⟨ou1, ou2⟩ := hok [u, v] (by simp) u (by simp)
    obtain ⟨ov1, ov2⟩ := hok [u, v] (by simp) v (by simp)
    show ex _ _ [some (.lst [.int t0, .int t1, .int t2, .int t3]), some (.lst [.int u0, .int u1, .int u2, .int u3]), some (.lst [.lst [sdD s.p s.q s.b], .lst [sdD u.p u.q u.b, sdD v.p v.q v.b]]), none, none, none, none, none] _ _
    walk_at "z"
    refine ex1_asg (ev_dict0 fun q hq => ?_)
    walk_at "zz"
    refine ex1_forU ?_
    refine ei_lst ?_
    walk_at "zz"
    walk_at "zlc"
    refine ei_lst ?_
    repeat (first | walk_at "z" | rw [rng1] | rw [rng2])
    refine ⟨_, ⟨[[.int 0], [.int 0, .int 1]], _, rfl, .inl rfl, okR2 (by decide) (by decide), rfl⟩, ?_⟩
    refine ⟨_, .inl rfl, ?_⟩
    show forU _ _ _ _ [.tup [.int 0, .int 0], .tup [.int 0, .int 1]] _ _
    repeat (first
      | ((with_reducible show ex1 _ (Stmt.Assign [Expr.Subscript _ _ _] _ _) _ _ _); refine ex1_dputN ?_)
      | walk_at "z"
      | (walk_at "zset"; refine ei_zipLT (by walk_at "zb") ?_)
      | (rw [zip1]) | (rw [zip2])
      | (refine ⟨_, .inl ⟨_, _, _, _, _, rfl, .inl rfl, ⟨by assumption, by assumption, by assumption, by assumption⟩, rfl⟩, ?_⟩)
      | (refine ⟨_, .inr ⟨_, _, _, _, _, _, _, _, _, rfl, .inl rfl, ⟨by assumption, by assumption, by assumption, by assumption, by assumption, by assumption, by assumption, by assumption⟩, rfl⟩, ?_⟩)
      | (refine ⟨_, _, _, _, rfl, updS_same, rfl, rfl, by kernel_rfl, by ((dsimp only [List.map, unK, List.nil_append, List.cons_append]); try exact rfl), by walk_at "zn", ?_⟩; rw [updS_updS]))
    exact fin (h q hq)
  · cases ht with
    | @four t0 t1 t2 t3 a0 a1 a2 a3 =>
    cases hb with
    | @four u0 u1 u2 u3 b0 b1 b2 b3 =>
    rename_i s t u v
    obtain ⟨os1, os2⟩ := hok [s, t] (by simp) s (by simp)
    obtain ⟨ot1, ot2⟩ := hok [s, t] (by simp) t (by simp)
    obtain ⟨ou1, ou2⟩ := hok [u, v] (by simp) u (by simp)
    obtain ⟨ov1, ov2⟩ := hok [u, v] (by simp) v (by simp)
    show ex _ _ [some (.lst [.int t0, .int t1, .int t2, .int t3]), some (.lst [.int u0, .int u1, .int u2, .int u3]), some (.lst [.lst [sdD s.p s.q s.b, sdD t.p t.q t.b], .lst [sdD u.p u.q u.b, sdD v.p v.q v.b]]), none, none, none, none, none] _ _
    walk_at "z"
    refine ex1_asg (ev_dict0 fun q hq => ?_)
    walk_at "zz"
    refine ex1_forU ?_
    refine ei_lst ?_
    walk_at "zz"
    walk_at "zlc"
    refine ei_lst ?_
    repeat (first | walk_at "z" | rw [rng1] | rw [rng2])
    refine ⟨_, ⟨[[.int 0, .int 1], [.int 0, .int 1]], _, rfl, .inl rfl, okR2 (by decide) (by decide), rfl⟩, ?_⟩
    refine ⟨_, .inl rfl, ?_⟩
    show forU _ _ _ _ [.tup [.int 0, .int 0], .tup [.int 0, .int 1], .tup [.int 1, .int 0], .tup [.int 1, .int 1]] _ _
    repeat (first
      | ((with_reducible show ex1 _ (Stmt.Assign [Expr.Subscript _ _ _] _ _) _ _ _); refine ex1_dputN ?_)
      | walk_at "z"
      | (walk_at "zset"; refine ei_zipLT (by walk_at "zb") ?_)
      | (rw [zip1]) | (rw [zip2])
      | (refine ⟨_, .inl ⟨_, _, _, _, _, rfl, .inl rfl, ⟨by assumption, by assumption, by assumption, by assumption⟩, rfl⟩, ?_⟩)
      | (refine ⟨_, .inr ⟨_, _, _, _, _, _, _, _, _, rfl, .inl rfl, ⟨by assumption, by assumption, by assumption, by assumption, by assumption, by assumption, by assumption, by assumption⟩, rfl⟩, ?_⟩)
      | (refine ⟨_, _, _, _, rfl, updS_same, rfl, rfl, by kernel_rfl, by ((dsimp only [List.map, unK, List.nil_append, List.cons_append]); try exact rfl), by walk_at "zn", ?_⟩; rw [updS_updS]))
    exact fin (h q hq)
end
/-! ## K95F -/
section
variable {P : Program} {w : World} {K : Frag} {mg : Str → Option Value} {base : Heap}
def allowedP : Rw → List (List Int)
  | [s] => if s.b then [[0]] else []
  | [s, t] => (if s.b then [[0]] else []) ++ ((if t.b then [[1]] else []) ++ [[0, 1]])
  | _ => []
def lotsP : List Rw → List (List (List Int))
  | [r] => (allowedP r).map fun a => [a]
  | [r, t] => (allowedP r).flatMap fun a => (allowedP t).map fun b => [a, b]
  | _ => []
def keysP : List (List Int) → List (List Int)
  | [a] => a.map fun x => [x]
  | [a, b] => a.flatMap fun x => b.map fun y => [x, y]
  | _ => []
def valP (c : Int × Int) : Option (Int × Int) := if c.2 = 0 then none else some (madeP c.1 c.2)
def faceP (c : List Int → Int × Int) (lot : List (List Int)) : List (Int × Int) := (keysP lot).filterMap fun k => valP (c k)
def facesP (c : List Int → Int × Int) (ss : List Rw) : List (List (Int × Int)) := (lotsP ss).map (faceP c)
def fracsD (l : List (Int × Int)) : Da := .lst (l.map frD)
abbrev spFacesOf : SpD := fun ds Θ Post => ∃ (n : Nat) (q : Addr) (ss : List Rw) (D : List (List Key × Da)) (c : List Int → Int × Int), ds = [.obj q, sidesD ss] ∧ Shape n ss ∧ Θ q = some (.dT D) ∧
  (∀ lot, lot ∈ lotsP ss → ∀ k, k ∈ keysP lot → valD D (k.map Sum.inl) = some (frD (c k)) ∧ Bd 400 (c k).2 ∧ ((c k).2 = 0 → (c k).1 = 0)) ∧ Post (.lst ((facesP c ss).map fracsD)) Θ
theorem mono_faces : Mono spFacesOf := fun _ _ _ _ q ⟨n, z, ss, D, c, e, h1, h2, h3, h4⟩ => ⟨n, z, ss, D, c, e, h1, h2, h3, q _ _ h4⟩
/-- the rows of what is allowed, crossed -/
theorem crossed_one (r : List Da) : crossedD [r] = r.map fun o => [o] := by simp [crossedD, crossStep]
theorem crossed_two (r t : List Da) : crossedD [r, t] = r.flatMap fun a => t.map fun b => [a, b] := by
  simp [crossedD, crossStep, List.flatMap_map]
def lotD (lot : List (List Int)) : Da := .tup (lot.map kL)
theorem lots_crossed {n : Nat} {ss : List Rw} (h : Shape n ss) : crossedD (ss.map fun r => (allowedP r).map kL) = (lotsP ss).map fun lot => lot.map kL := by
  cases h <;> first
    | (rw [List.map_cons, List.map_nil, crossed_one]; simp [lotsP, List.map_map, Function.comp_def])
    | (rw [List.map_cons, List.map_cons, List.map_nil, crossed_two]; simp [lotsP, List.flatMap_map, List.map_flatMap, List.map_map, Function.comp_def])
theorem allowed_len {n : Nat} {ss : List Rw} (h : Shape n ss) : OkRows (ss.map fun r => (allowedP r).map kL) := by
  have q : ∀ r : Rw, ((allowedP r).map kL).length ≤ 30 := fun r => by
    rw [List.length_map]
    unfold allowedP
    split
    · split <;> simp
    · split <;> split <;> simp
    · simp
  cases h <;> first | exact okR1 (q _) | exact okR2 (q _) (q _)
theorem lots_shape {n : Nat} {ss : List Rw} (h : Shape n ss) : ∀ lot, lot ∈ lotsP ss → (∃ a : List Int, lot = [a] ∧ a.length ≤ 2) ∨ ∃ a b : List Int, lot = [a, b] ∧ a.length ≤ 2 ∧ b.length ≤ 2 := by
  have q : ∀ (r : Rw) (a : List Int), a ∈ allowedP r → a.length ≤ 2 := fun r a ha => by
    unfold allowedP at ha
    split at ha
    · split at ha <;> simp at ha; subst ha; decide
    · simp only [List.mem_append] at ha
      rcases ha with ha | ha | ha
      · split at ha <;> simp at ha; subst ha; decide
      · split at ha <;> simp at ha; subst ha; decide
      · simp at ha; subst ha; decide
    · cases ha
  intro lot hl
  cases h <;> simp only [lotsP, List.mem_map, List.mem_flatMap] at hl
  case a => obtain ⟨a, ha, rfl⟩ := hl; exact .inl ⟨a, rfl, q _ _ ha⟩
  case b => obtain ⟨a, ha, rfl⟩ := hl; exact .inl ⟨a, rfl, q _ _ ha⟩
  all_goals
    obtain ⟨a, ha, b, hb, rfl⟩ := hl
    exact .inr ⟨a, b, rfl, q _ _ ha, q _ _ hb⟩
theorem keys_crossed {lot : List (List Int)} (h : (∃ a : List Int, lot = [a] ∧ a.length ≤ 2) ∨ ∃ a b : List Int, lot = [a, b] ∧ a.length ≤ 2 ∧ b.length ≤ 2) :
    crossedD (lot.map fun a => a.map Da.int) = (keysP lot).map (fun k => k.map Da.int) ∧ OkRows (lot.map fun a => a.map Da.int) ∧ (keysP lot).length ≤ 4 := by
  rcases h with ⟨a, rfl, ha⟩ | ⟨a, b, rfl, ha, hb⟩
  · refine ⟨?_, okR1 (by simp; omega), by simp [keysP]; omega⟩
    rw [List.map_cons, List.map_nil, crossed_one]
    simp [keysP, List.map_map, Function.comp_def]
  · refine ⟨?_, okR2 (by simp; omega) (by simp; omega), ?_⟩
    · rw [List.map_cons, List.map_cons, List.map_nil, crossed_two]
      simp [keysP, List.flatMap_map, List.map_flatMap, List.map_map, Function.comp_def]
    · have : ∀ l : List Int, (l.flatMap fun x => b.map fun y => [x, y]).length = l.length * b.length := fun l => by
        induction l with
        | nil => simp
        | cons x l ih => rw [List.flatMap_cons, List.length_append, ih, List.length_map, List.length_cons, Nat.succ_mul]; omega
      show (a.flatMap fun x => b.map fun y => [x, y]).length ≤ 4
      rw [this]
      exact Nat.mul_le_mul ha hb
theorem lots_len {n : Nat} {ss : List Rw} (h : Shape n ss) : (lotsP ss).length ≤ 1000 := by
  have := (allowed_len h).k ss.length
  rw [List.take_of_length_le (by simp), lots_crossed h, List.length_map] at this
  exact this
end
/-! ## K95G -/
section
variable {P : Program} {w : World} {K : Frag} {mg : Str → Option Value} {base : Heap}
theorem allowed_sp {n : Nat} {ss : List Rw} (h : Shape n ss) : ∀ r, r ∈ ss → (∃ p q b, [rowD r] = [.lst [sdD p q b]] ∧ .lst ((allowedP r).map kL) = Da.lst (if b then [kL [0]] else [])) ∨
    ∃ p q b s t c, [rowD r] = [.lst [sdD p q b, sdD s t c]] ∧ .lst ((allowedP r).map kL) = Da.lst ((if b then [kL [0]] else []) ++ ((if c then [kL [1]] else []) ++ [kL [0, 1]])) := by
  have one : ∀ s : Sd, (∃ p q b, [rowD [s]] = [.lst [sdD p q b]] ∧ .lst ((allowedP [s]).map kL) = Da.lst (if b then [kL [0]] else [])) := fun ⟨p, q, b⟩ => ⟨p, q, b, rfl, by cases b <;> rfl⟩
  have two : ∀ s t : Sd, (∃ p q b u v c, [rowD [s, t]] = [.lst [sdD p q b, sdD u v c]] ∧ .lst ((allowedP [s, t]).map kL) = Da.lst ((if b then [kL [0]] else []) ++ ((if c then [kL [1]] else []) ++ [kL [0, 1]]))) := fun ⟨p, q, b⟩ ⟨u, v, c⟩ =>
    ⟨p, q, b, u, v, c, rfl, by cases b <;> cases c <;> rfl⟩
  intro r hr
  cases h <;> simp only [List.mem_cons, List.not_mem_nil, or_false] at hr
  case a => subst hr; exact .inl (one _)
  case b => subst hr; exact .inr (two _ _)
  case c => rcases hr with rfl | rfl <;> exact .inl (one _)
  case d =>
    rcases hr with rfl | rfl
    · exact .inr (two _ _)
    · exact .inl (one _)
  case e =>
    rcases hr with rfl | rfl
    · exact .inl (one _)
    · exact .inr (two _ _)
  case f => rcases hr with rfl | rfl <;> exact .inr (two _ _)
theorem shape_len {n : Nat} {ss : List Rw} (h : Shape n ss) : ss.length ≤ 2 := by cases h <;> simp
def unInt : Da → Int
  | .int i => i
  | _ => 0
def unSd : Da → Sd
  | .tup [.tup [.int p, .int q], .bl b] => ⟨p, q, b⟩
  | _ => ⟨0, 0, false⟩
def unRow : Da → Rw
  | .lst xs => xs.map unSd
  | _ => []
def unKey : Da → List Int
  | .tup xs => xs.map unInt
  | _ => []
theorem unRow_row (r : Rw) : unRow (rowD r) = r := by
  show (r.map Sd.D).map unSd = r
  rw [List.map_map]
  exact List.map_id'' (fun _ => rfl) r
theorem unKey_key (k : List Int) : unKey (.tup (k.map .int)) = k := by
  show (k.map Da.int).map unInt = k
  rw [List.map_map]
  exact List.map_id'' (fun _ => rfl) k
theorem fm_rows (ss : List Rw) (g : Rw → Da) : (ss.map rowD).filterMap (fun d => some (g (unRow d))) = ss.map g := by
  rw [List.filterMap_map]
  have e : ((fun d => some (g (unRow d))) ∘ rowD) = fun r => some (g r) := by funext r; simp [unRow_row]
  rw [e, ← List.filterMap_eq_map]
  rfl
def valOfD (c : Int × Int) : Da := if c.2 = 0 then .non else frD (madeP c.1 c.2)
theorem fm_keys (l : List (List Int)) (c : List Int → Int × Int) : (l.map (Da.tup ∘ fun k => k.map Da.int)).filterMap (fun d => some (valOfD (c (unKey d)))) = l.map fun k => valOfD (c k) := by
  rw [List.filterMap_map]
  have e : ((fun d => some (valOfD (c (unKey d)))) ∘ (Da.tup ∘ fun k => k.map Da.int)) = fun k => some (valOfD (c k)) := by funext k; simp [unKey_key]
  rw [e, ← List.filterMap_eq_map]
  rfl
theorem fm_some (lot : List (List Int)) (c : List Int → Int × Int) : ((keysP lot).map fun k => valOfD (c k)).filterMap (fun d => if d.isN then none else some d) = (faceP c lot).map frD := by
  unfold faceP
  rw [List.filterMap_map, List.map_filterMap]
  congr 1
  funext k
  simp only [Function.comp_apply, valOfD, valP]
  split <;> rfl
theorem unK_int (k : List Int) : ((k.map Da.int).map unK).map kD = k.map Da.int := by
  rw [List.map_map, List.map_map]
  rfl
theorem unK_int2 (k : List Int) : (k.map Da.int).map unK = k.map Sum.inl := by
  rw [List.map_map]
  rfl
set_option maxHeartbeats 2000000 in
theorem ok_faces_of (T : Txt K mg) : Fn P w K mg base 5 "faces_of" spFacesOf := by
  have F1 : Fn P w K mg base 1 "allowed" spAllowed := ok_allowed T
  have F2 : Fn P w K mg base 1 "crossed" spCrossed := ok_crossed T
  have F3 : Fn P w K mg base 4 "value_of" spValueOf := ok_value_of T
  obtain ⟨fd, F⟩ := T.says.def_ i_faces_of (d := d_faces_of) rfl
  refine fn_ok F (T.glo "faces_of" (by kernel_rfl)) (F.bindsN fun _ _ _ _ _ _ us hl => match us, hl with | [_, _], _ => rfl) sc_faces_of (mono_faces) ?_
  rintro ds Θ Post ⟨n, q, ss, D, c, rfl, hs, hq, hc, h⟩
  refine ⟨rfl, ?_⟩
  show ex _ _ [some (.obj q), some (sidesD ss), none, none, none, none, none, none] _ _
  walk_at "z"
  refine ex1_asg (ev_lstM ?_)
  walk_at "z"
  refine ⟨by decide, fun p hp => ?_⟩
  have hpq : q ≠ p := fun e => by rw [e, hp] at hq; cases hq
  walk_at "zz"
  refine ex1_for (fun ds i Γ1 Θ1 => ∃ x1 x2 x3 x4 x5, ds = (lotsP ss).map lotD ∧ Γ1 = [some (.obj q), some (sidesD ss), some (.obj p), x1, x2, x3, x4, x5] ∧ Θ1 = updS Θ p (.lst (((lotsP ss).take i).map fun l => fracsD (faceP c l)))) ?_
  refine ei_lst ?_
  walk_at "z"
  walk_at "z"
  walk_at "zlc"
  refine ei_lst ?_
  walk_at "z"
  refine ⟨_, .inl rfl, by rw [List.length_map]; exact sz (by have := shape_len hs; omega), ?_⟩
  refine lcT_fm (fun d => some (.lst ((allowedP (unRow d)).map kL))) (by kernel_rfl) (by walk_at "zat") (by kernel_rfl) (by kernel_rfl) (by intro _; walk_at "zs") ?_ ?_
  · intro d hd
    rw [List.mem_map] at hd
    obtain ⟨r, hr, rfl⟩ := hd
    walk_at "zz"
    refine ⟨_, allowed_sp hs r hr, ?_⟩
    exact ⟨rfl, by rw [unRow_row]⟩
  rw [List.nil_append, fm_rows ss fun r => .lst ((allowedP r).map kL)]
  walk_at "z"
  have hok := allowed_len hs
  refine ⟨_, ⟨_, _, rfl, .inl (by rw [List.map_map]; rfl), hok, rfl⟩, ?_⟩
  rw [lots_crossed hs, List.map_map]
  refine ⟨_, .inl rfl, ⟨_, _, _, _, _, rfl, rfl, rfl⟩, ?_, ?_⟩
  · rintro i x Γ1 Θ1 hx ⟨x1, x2, x3, x4, x5, _, rfl, rfl⟩
    rw [List.getElem?_map] at hx
    cases hl : (lotsP ss)[i]? with
    | none => rw [hl] at hx; cases hx
    | some lot =>
    rw [hl] at hx
    cases hx
    have hm := List.mem_of_getElem? hl
    have hn : i < (lotsP ss).length := (List.getElem?_eq_some_iff.mp hl).1
    have hn2 := lots_len hs
    obtain ⟨k1, k2, k3⟩ := keys_crossed (lots_shape hs lot hm)
    show eg _ _ (.tup (lot.map kL)) _ _ _
    walk_at "z"
    walk_at "z"
    walk_at "zset"
    refine ei_lst ?_
    walk_at "zz"
    refine ⟨_, ⟨lot.map fun a => a.map Da.int, _, rfl, .inr (by rw [List.map_map]; rfl), k2, rfl⟩, ?_⟩
    rw [k1, List.map_map]
    refine ⟨_, .inl rfl, sz (by rw [List.length_map]; omega), ?_⟩
    refine lcT_fm (fun d => some (valOfD (c (unKey d)))) (by kernel_rfl) (by walk_at "zat") (by kernel_rfl) (by kernel_rfl) (by intro _; walk_at "zs") ?_ ?_
    · intro d hd
      rw [List.mem_map] at hd
      obtain ⟨k, hk, rfl⟩ := hd
      obtain ⟨c1, c2, c3⟩ := hc lot hm k hk
      show ets _ _ [_, _, _, _, _, _, some (.tup (k.map Da.int)), _] _ _
      walk_at "z"
      walk_at "z"
      walk_at "z"
      walk_at "z"
      refine ev_dgetA (fun _ _ => rfl) ?_
      walk_at "zz"
      refine ⟨_, _, _, _, rfl, by rw [updS_ne hpq]; exact hq, rfl, unK_int k, by rw [unK_int2]; exact c1, ?_⟩
      walk_at "zz"
      refine ⟨_, ⟨(c k).1, (c k).2, rfl, ⟨c2, c3⟩, rfl⟩, ?_⟩
      exact ⟨rfl, congrArg some (by show valOfD (c (unKey (.tup (k.map Da.int)))) = _; rw [unKey_key]; rfl)⟩
    · rw [List.nil_append, fm_keys]
      dsimp only [List.set]
      walk_at "z"
      refine ex1_expr (ev_app (by kernel_rfl) ?_)
      walk_at "z"
      refine ⟨_, _, rfl, updS_same, ?_⟩
      walk_at "zlc"
      refine ei_lst ?_
      walk_at "z"
      refine ⟨_, .inl rfl, sz (by rw [List.length_map]; omega), ?_⟩
      refine lcT_fm (fun d => if d.isN then none else some d) (by kernel_rfl) (by walk_at "zat") (by kernel_rfl) (by kernel_rfl) (by intro _; walk_at "zs") ?_ ?_
      · intro d hd
        walk_at "z"
        walk_at "z"
        walk_at "z"
        walk_at "z"
        walk_at "z"
        refine ⟨rfl, _, rfl, ?_⟩
        refine br_nb (fun e => ?_) (fun e => ?_)
        · walk_at "z"
          exact ⟨rfl, by rw [e]; rfl⟩
        · exact ⟨rfl, by rw [e]; rfl⟩
      · rw [List.nil_append, fm_some]
        refine ⟨_, updS_same, sz (by rw [List.length_map, List.length_take]; omega), ?_⟩
        rw [updS_updS, show (((lotsP ss).take i).map fun l => fracsD (faceP c l)) ++ [Da.lst ((faceP c lot).map frD)] = ((lotsP ss).take (i + 1)).map fun l => fracsD (faceP c l) by rw [List.take_add_one, hl, Option.toList_some, List.map_append]; rfl]
        walk_at "z"
        exact ⟨_, _, _, _, _, rfl, rfl, rfl⟩
  · rintro Γ1 Θ1 ⟨x1, x2, x3, x4, x5, _, rfl, rfl⟩
    rw [List.length_map, List.take_length]
    walk_at "zz"
    refine finF hp ?_
    rw [show ((lotsP ss).map fun l => fracsD (faceP c l)) = (facesP c ss).map fracsD by unfold facesP; rw [List.map_map]; rfl]
    exact h
end
/-! ## K95H -/
section
variable {P : Program} {w : World} {K : Frag} {mg : Str → Option Value} {base : Heap}
def sgnP (u v : Int × Int) : Int := (if v.1 * u.2 < u.1 * v.2 then 1 else 0) - (if u.1 * v.2 < v.1 * u.2 then 1 else 0)
def outStep (s : Int) (f v : Int × Int) : Int × Int := if sgnP v f = s then v else f
def outerP (s : Int) (l : List (Int × Int)) : Int × Int := l.foldl (outStep s) (l.headD (0, 1))
def FrOk (v : Int × Int) : Prop := Low v ∧ Bd 400 v.1 ∧ Bd 400 v.2
abbrev spOutermost : SpD := pureSp fun ds d => ∃ (l : List (Int × Int)) (s : Int), ds = [fracsD l, .int s] ∧ (l ≠ [] ∧ l.length ≤ 100 ∧ ∀ v, v ∈ l → FrOk v) ∧ d = frD (outerP s l)
theorem outer_mem {s : Int} {l : List (Int × Int)} {f : Int × Int} : ∀ {r : List (Int × Int)}, f ∈ l → (∀ v, v ∈ r → v ∈ l) → r.foldl (outStep s) f ∈ l
  | [], hf, _ => hf
  | v :: r, hf, h => by
    rw [List.foldl_cons]
    refine outer_mem ?_ fun u hu => h u (List.mem_cons_of_mem _ hu)
    unfold outStep
    split
    · exact h v (List.mem_cons_self ..)
    · exact hf
theorem atI_zero {x : Da} {l : List Da} : atI (x :: l) 0 = some x := by
  unfold atI ixN
  simp
set_option maxHeartbeats 2000000 in
theorem ok_outermost (T : Txt K mg) : Fn P w K mg base 5 "outermost" spOutermost := by
  have F1 : Fn P w K mg base 4 "sign_of" spSignOf := ok_sign_of T
  obtain ⟨fd, F⟩ := T.says.def_ i_outermost (d := d_outermost) rfl
  refine fn_ok F (T.glo "outermost" (by kernel_rfl)) (F.bindsN fun _ _ _ _ _ _ us hl => match us, hl with | [_, _], _ => rfl) sc_outermost (mono_pure _) ?_
  rintro ds Θ Post ⟨d, ⟨l, s, rfl, ⟨h0, hn, hl⟩, rfl⟩, h⟩
  refine ⟨rfl, ?_⟩
  show ex _ _ [some (fracsD l), some (.int s), none, none] _ _
  obtain ⟨v0, r, rfl⟩ : ∃ v0 r, l = v0 :: r := by
    cases l with
    | nil => exact absurd rfl h0
    | cons v r => exact ⟨v, r, rfl⟩
  walk_at "zz"
  refine ⟨_, _, _, .inl rfl, rfl, atI_zero, ?_⟩
  walk_at "zz"
  refine ex1_for (fun ds i Γ1 Θ1 => ∃ x3, Γ1 = [some (fracsD (v0 :: r)), some (.int s), some (frD (((v0 :: r).take i).foldl (outStep s) v0)), x3] ∧ Θ1 = Θ) ?_
  refine ei_lst ?_
  walk_at "z"
  refine ⟨_, .inl rfl, ⟨_, rfl, rfl⟩, ?_, ?_⟩
  · rintro i x Γ1 Θ1 hx ⟨x3, rfl, rfl⟩
    rw [List.getElem?_map] at hx
    cases hv : (v0 :: r)[i]? with
    | none => rw [hv] at hx; cases hx
    | some v =>
    rw [hv] at hx
    cases hx
    have hm := List.mem_of_getElem? hv
    have hf : ((v0 :: r).take i).foldl (outStep s) v0 ∈ v0 :: r := outer_mem (List.mem_cons_self ..) fun u hu => List.mem_of_mem_take hu
    have e : ((v0 :: r).take (i + 1)).foldl (outStep s) v0 = outStep s (((v0 :: r).take i).foldl (outStep s) v0) v := by
      rw [List.take_add_one, hv, Option.toList_some, List.foldl_append]; rfl
    generalize hg : ((v0 :: r).take i).foldl (outStep s) v0 = f at hf e
    obtain ⟨f1, f2, f3⟩ := hl f hf
    obtain ⟨g1, g2, g3⟩ := hl v hm
    walk_at "zz"
    refine ⟨_, ⟨v.1, v.2, f.1, f.2, rfl, ⟨g1, f1, g2, g3, f2, f3⟩, rfl⟩, ?_⟩
    walk_at "zz"
    show if decide (sgnP v f = s) = true then _ else _
    refine br_dec (fun hk => ?_) (fun hk => ?_)
    · walk_at "zz"
      exact ⟨_, by rw [e]; unfold outStep; rw [if_pos hk], rfl⟩
    · walk_at "zz"
      exact ⟨_, by rw [e]; unfold outStep; rw [if_neg hk], rfl⟩
  · rintro Γ1 Θ1 ⟨x3, rfl, rfl⟩
    rw [List.length_map, List.take_length]
    walk_at "zz"
    exact fin h
end
/-! ## K95I -/
section
variable {P : Program} {w : World} {K : Frag} {mg : Str → Option Value} {base : Heap}
def crsP (top bottom : List Int) (ss : List Rw) : List (Int × Int) := (crnP ss).map fun c => (formP top c.2, formP bottom c.2)
def nzP (l : List (Int × Int)) : List (Int × Int) := l.filter fun c => decide (c ≠ (0, 0))
def noI (bs : List Int) : Bool := bs.any (fun b => decide (b = 0)) || (bs.isEmpty || (bs.any (fun b => decide (b < 0)) && bs.any (fun b => decide (0 < b))))
def noP (nz : List (Int × Int)) : Bool := noI (nz.map (·.2))
def cP (top bottom : List Int) (ss : List Rw) (k : List Int) : Int × Int := match (crnP ss).find? fun c => decide (c.1 = k) with
  | some c => (formP top c.2, formP bottom c.2)
  | none => (0, 0)
def inP (faces : List (List (Int × Int))) (v : Int × Int) : Bool := faces.any fun f => f.all fun u => decide (u = v)
def rangeP (top bottom : List Int) (ss : List Rw) : Option ((Int × Int) × Bool × (Int × Int) × Bool) :=
  if noP (nzP (crsP top bottom ss)) then none else
  if (facesP (cP top bottom ss) ss).any List.isEmpty then none else
  some (outerP (-1) ((nzP (crsP top bottom ss)).map fun c => madeP c.1 c.2), inP (facesP (cP top bottom ss) ss) (outerP (-1) ((nzP (crsP top bottom ss)).map fun c => madeP c.1 c.2)),
    outerP 1 ((nzP (crsP top bottom ss)).map fun c => madeP c.1 c.2), inP (facesP (cP top bottom ss) ss) (outerP 1 ((nzP (crsP top bottom ss)).map fun c => madeP c.1 c.2)))
def resD : Option ((Int × Int) × Bool × (Int × Int) × Bool) → Da
  | none => .non
  | some (l, a, h, b) => .tup [frD l, .bl a, frD h, .bl b]
/-- small: what the law draws -/
inductive SForm : Nat → List Int → Prop
  | two {a b : Int} : Bd 60 a → Bd 60 b → SForm 2 [a, b]
  | four {a b c e : Int} : Bd 60 a → Bd 60 b → Bd 60 c → Bd 60 e → SForm 4 [a, b, c, e]
def Sd.Sm (s : Sd) : Prop := Bd 3 s.p ∧ Bd 3 s.q
theorem SForm.is {n : Nat} {f : List Int} (h : SForm n f) : IsForm n f := by
  cases h with
  | two a b => exact .two (bd_le a (by decide)) (bd_le b (by decide))
  | four a b c e => exact .four (bd_le a (by decide)) (bd_le b (by decide)) (bd_le c (by decide)) (bd_le e (by decide))
theorem Sd.Sm.ok {s : Sd} (h : s.Sm) : s.Ok := ⟨bd_le h.1 (by decide), bd_le h.2 (by decide)⟩
theorem crn_mem {n : Nat} {ss : List Rw} (h : Shape n ss) : ∀ c, c ∈ crnP ss → (n = 2 ∧ ∃ s, c.2 = [s] ∧ ∃ r, r ∈ ss ∧ s ∈ r) ∨ (n = 4 ∧ ∃ s t, c.2 = [s, t] ∧ (∃ r, r ∈ ss ∧ s ∈ r) ∧ ∃ r, r ∈ ss ∧ t ∈ r) := by
  intro c hc
  cases h <;> simp [crnP, crn1] at hc ⊢
  case a => subst hc; simp
  case b => rcases hc with rfl | rfl <;> simp
  case c => subst hc; exact ⟨_, _, rfl, by simp, by simp⟩
  case d => rcases hc with rfl | rfl <;> exact ⟨_, _, rfl, by simp, by simp⟩
  case e => rcases hc with rfl | rfl <;> exact ⟨_, _, rfl, by simp, by simp⟩
  case f => rcases hc with rfl | rfl | rfl | rfl <;> exact ⟨_, _, rfl, by simp, by simp⟩
theorem form_bd {n : Nat} {ss : List Rw} {f : List Int} (h : Shape n ss) (hf : SForm n f) (hs : ∀ r, r ∈ ss → ∀ s, s ∈ r → Sd.Sm s) : ∀ c, c ∈ crnP ss → Bd 400 (formP f c.2) := by
  intro c hc
  rcases crn_mem h c hc with ⟨rfl, s, e, r, hr, hsr⟩ | ⟨rfl, s, t, e, ⟨r, hr, hsr⟩, r2, hr2, htr⟩
  · obtain ⟨o1, o2⟩ := hs r hr s hsr
    rw [e]
    cases hf with
    | two a b => exact bd_le (bd_add (bd_mul o1 a) (bd_mul o2 b)) (by decide)
  · obtain ⟨o1, o2⟩ := hs r hr s hsr
    obtain ⟨o3, o4⟩ := hs r2 hr2 t htr
    rw [e]
    cases hf with
    | four a b c e => exact bd_le (bd_add (bd_mul o3 (bd_add (bd_mul o1 a) (bd_mul o2 c))) (bd_mul o4 (bd_add (bd_mul o1 b) (bd_mul o2 e)))) (by decide)
/-! keys -/
def skel (ss : List Rw) : List (List Bool) := ss.map fun r => r.map Sd.b
def allowedK : List Bool → List (List Int)
  | [s] => if s then [[0]] else []
  | [s, t] => (if s then [[0]] else []) ++ ((if t then [[1]] else []) ++ [[0, 1]])
  | _ => []
def lotsK : List (List Bool) → List (List (List Int))
  | [r] => (allowedK r).map fun a => [a]
  | [r, t] => (allowedK r).flatMap fun a => (allowedK t).map fun b => [a, b]
  | _ => []
def rowK : List Bool → List Int
  | [_] => [0]
  | [_, _] => [0, 1]
  | _ => []
def keysK : List (List Bool) → List (List Int)
  | [r] => (rowK r).map fun x => [x]
  | [r, t] => (rowK r).flatMap fun x => (rowK t).map fun y => [x, y]
  | _ => []
theorem lots_skel {n : Nat} {ss : List Rw} (h : Shape n ss) : lotsP ss = lotsK (skel ss) := by cases h <;> rfl
theorem keys_skel {n : Nat} {ss : List Rw} (h : Shape n ss) : (crnP ss).map (·.1) = keysK (skel ss) := by cases h <;> rfl
theorem k1 : ∀ b, ∀ lot, lot ∈ lotsK [[b]] → ∀ k, k ∈ keysP lot → k ∈ keysK [[b]] := by decide
theorem k2 : ∀ b c, ∀ lot, lot ∈ lotsK [[b, c]] → ∀ k, k ∈ keysP lot → k ∈ keysK [[b, c]] := by decide
theorem k3 : ∀ b c, ∀ lot, lot ∈ lotsK [[b], [c]] → ∀ k, k ∈ keysP lot → k ∈ keysK [[b], [c]] := by decide
theorem k4 : ∀ b c e, ∀ lot, lot ∈ lotsK [[b, c], [e]] → ∀ k, k ∈ keysP lot → k ∈ keysK [[b, c], [e]] := by decide
theorem k5 : ∀ b c e, ∀ lot, lot ∈ lotsK [[b], [c, e]] → ∀ k, k ∈ keysP lot → k ∈ keysK [[b], [c, e]] := by decide
theorem k6 : ∀ b c e f, ∀ lot, lot ∈ lotsK [[b, c], [e, f]] → ∀ k, k ∈ keysP lot → k ∈ keysK [[b, c], [e, f]] := by decide
theorem keys_in {n : Nat} {ss : List Rw} (h : Shape n ss) : ∀ lot, lot ∈ lotsP ss → ∀ k, k ∈ keysP lot → ∃ c, (crnP ss).find? (fun c => decide (c.1 = k)) = some c ∧ c ∈ crnP ss ∧ c.1 = k := by
  intro lot hl k hk
  rw [lots_skel h] at hl
  have hk2 : k ∈ (crnP ss).map (·.1) := by
    rw [keys_skel h]
    cases h
    · exact k1 _ lot hl k hk
    · exact k2 _ _ lot hl k hk
    · exact k3 _ _ lot hl k hk
    · exact k4 _ _ _ lot hl k hk
    · exact k5 _ _ _ lot hl k hk
    · exact k6 _ _ _ _ lot hl k hk
  rw [List.mem_map] at hk2
  obtain ⟨c, hc, rfl⟩ := hk2
  cases hf : (crnP ss).find? (fun d => decide (d.1 = c.1)) with
  | none => exact absurd (decide_eq_true rfl) (List.find?_eq_none.mp hf c hc)
  | some d => exact ⟨d, rfl, List.mem_of_find?_eq_some hf, by have := List.find?_some hf; exact of_decide_eq_true this⟩
theorem inl_inj : ∀ {a b : List Int}, a.map (Sum.inl : Int → Key) = b.map Sum.inl → a = b
  | [], [], _ => rfl
  | [], _ :: _, h => by cases h
  | _ :: _, [], h => by cases h
  | x :: a, y :: b, h => by
    rw [List.map_cons, List.map_cons] at h
    obtain ⟨h1, h2⟩ := List.cons.inj h
    rw [Sum.inl.inj h1, inl_inj h2]
theorem val_dict {top bottom : List Int} {ss : List Rw} {k : List Int} {c : List Int × List Sd} (h : (crnP ss).find? (fun c => decide (c.1 = k)) = some c) : valD (dictP top bottom ss) (k.map Sum.inl) = some (frD (cP top bottom ss k)) := by
  have e : cP top bottom ss k = (formP top c.2, formP bottom c.2) := by unfold cP; rw [h]
  rw [e]
  unfold valD dictP
  rw [List.find?_map]
  have e2 : ((fun kv : List Key × Da => decide (kv.1 = k.map Sum.inl)) ∘ fun c : List Int × List Sd => (c.1.map (Sum.inl : Int → Key), frD (formP top c.2, formP bottom c.2))) = fun c => decide (c.1 = k) := by
    funext d
    by_cases q : d.1 = k
    · subst q
      simp
    · have : ¬ d.1.map (Sum.inl : Int → Key) = k.map Sum.inl := fun z => q (inl_inj z)
      simp [q, this]
  rw [e2, h]
  rfl
def frP (v : Int × Int) : PyData := .tuple [.int v.1, .int v.2]
def facP (f : List (Int × Int)) : PyData := .list (f.map frP)
theorem toP_fr (v : Int × Int) : toP (frD v) = some (frP v) := by simp [toP, toPs, frP]
theorem toP_fracs (f : List (Int × Int)) : toP (fracsD f) = some (facP f) := by
  unfold fracsD
  rw [toP, toPs_map toP_fr]; rfl
theorem toP_faces (l : List (List (Int × Int))) : toP (.lst (l.map fracsD)) = some (.list (l.map facP)) := by
  rw [toP, toPs_map toP_fracs]; rfl
theorem shp_fr (v : Int × Int) : shpN 1 (frP v) := shp_tup fun d hd => by
  simp at hd
  rcases hd with rfl | rfl <;> exact shp_int
theorem shp_fac (f : List (Int × Int)) : shpN 2 (facP f) := shp_list fun d hd => by
  rw [List.mem_map] at hd
  obtain ⟨v, _, rfl⟩ := hd
  exact shp_fr v
theorem shp_faces (l : List (List (Int × Int))) : shpN 3 (.list (l.map facP)) := shp_list fun d hd => by
  rw [List.mem_map] at hd
  obtain ⟨v, _, rfl⟩ := hd
  exact shp_fac v
theorem any_faces (l : List (List (Int × Int))) : ((l.map facP).any fun z => PyData.eqv z (.list [])) = l.any List.isEmpty := by
  rw [List.any_map]
  congr 1
  funext f
  show PyData.eqv (.list (f.map frP)) (.list []) = f.isEmpty
  rw [eqv_nil, List.isEmpty_map]
abbrev spRangeOver : SpD := pureSp fun ds d => ∃ (n : Nat) (top bottom : List Int) (ss : List Rw), ds = [formD top, formD bottom, sidesD ss] ∧ Shape n ss ∧ SForm n top ∧ SForm n bottom ∧ (∀ r, r ∈ ss → ∀ s, s ∈ r → Sd.Sm s) ∧ d = resD (rangeP top bottom ss)
theorem upd_del {Θ : Sto} {q : Addr} {o : Ob} : updS (delS Θ q) q o = updS Θ q o := by
  funext b
  unfold updS delS
  split <;> rfl
theorem crn_len {n : Nat} {ss : List Rw} (h : Shape n ss) : (crnP ss).length ≤ 4 := by cases h <;> simp [crnP, crn1]
theorem dict_vals (top bottom : List Int) (ss : List Rw) : (dictP top bottom ss).map (·.2) = (crsP top bottom ss).map frD := by
  unfold dictP crsP
  rw [List.map_map, List.map_map]
  rfl
def unFr : Da → Int × Int
  | .tup [.int a, .int b] => (a, b)
  | _ => (0, 0)
theorem fm_bot (l : List (Int × Int)) : (l.map frD).filterMap (fun d => if unFr d = (0, 0) then none else some (Da.int (unFr d).2)) = ((nzP l).map (·.2)).map Da.int := by
  induction l with
  | nil => rfl
  | cons c l ih =>
    obtain ⟨a, b⟩ := c
    rw [List.map_cons, List.filterMap_cons, ih]
    unfold nzP
    by_cases e : ((a, b) : Int × Int) = (0, 0)
    · rw [List.filter_cons_of_neg (by simpa using e), if_pos (show unFr (frD (a, b)) = (0, 0) from e)]
    · have e2 : (List.filter (fun c : Int × Int => decide (c ≠ (0, 0))) ((a, b) :: l)) = (a, b) :: List.filter (fun c : Int × Int => decide (c ≠ (0, 0))) l := List.filter_cons_of_pos (decide_eq_true e)
      rw [e2, if_neg (show ¬ unFr (frD (a, b)) = (0, 0) from e)]
      rfl
theorem fm_vals (l : List (Int × Int)) : (l.map frD).filterMap (fun d => if unFr d = (0, 0) then none else some (frD (madeP (unFr d).1 (unFr d).2))) = ((nzP l).map fun c => madeP c.1 c.2).map frD := by
  induction l with
  | nil => rfl
  | cons c l ih =>
    obtain ⟨a, b⟩ := c
    rw [List.map_cons, List.filterMap_cons, ih]
    unfold nzP
    by_cases e : ((a, b) : Int × Int) = (0, 0)
    · rw [List.filter_cons_of_neg (by simpa using e), if_pos (show unFr (frD (a, b)) = (0, 0) from e)]
    · have e2 : (List.filter (fun c : Int × Int => decide (c ≠ (0, 0))) ((a, b) :: l)) = (a, b) :: List.filter (fun c : Int × Int => decide (c ≠ (0, 0))) l := List.filter_cons_of_pos (decide_eq_true e)
      rw [e2, if_neg (show ¬ unFr (frD (a, b)) = (0, 0) from e)]
      rfl
def unFace : Da → List (Int × Int)
  | .lst xs => xs.map unFr
  | _ => []
theorem unFr_fr (v : Int × Int) : unFr (frD v) = v := rfl
theorem unFace_fracs (f : List (Int × Int)) : unFace (fracsD f) = f := by
  show (f.map frD).map unFr = f
  rw [List.map_map]
  exact List.map_id'' (fun _ => rfl) f
theorem eqvF (u v : Int × Int) : PyData.eqv (.tuple [.int u.1, .int u.2]) (.tuple [.int v.1, .int v.2]) = decide (u = v) := by
  rw [eqv2]
  obtain ⟨a, b⟩ := u
  obtain ⟨c, d⟩ := v
  by_cases h1 : a = c <;> by_cases h2 : b = d <;> simp [h1, h2]
theorem fm_ne (f : List (Int × Int)) (o : Int × Int) : (f.map frD).filterMap (fun d => if unFr d = o then none else some d) = (f.filter fun u => decide (u ≠ o)).map frD := by
  induction f with
  | nil => rfl
  | cons u f ih =>
    rw [List.map_cons, List.filterMap_cons, ih]
    by_cases e : u = o
    · rw [if_pos (show unFr (frD u) = o from e), List.filter_cons_of_neg (by simpa using e)]
    · rw [if_neg (show ¬ unFr (frD u) = o from e), List.filter_cons_of_pos (by simpa using e)]
      rfl
theorem filter_all (f : List (Int × Int)) (o : Int × Int) : (f.filter fun u => decide (u ≠ o)).isEmpty = f.all fun u => decide (u = o) := by
  induction f with
  | nil => rfl
  | cons u f ih =>
    by_cases e : u = o
    · rw [List.filter_cons_of_neg (by simpa using e), ih, List.all_cons, decide_eq_true e]; rfl
    · rw [List.filter_cons_of_pos (by simpa using e), List.all_cons, decide_eq_false e]; rfl
theorem fm_all (l : List (List (Int × Int))) (o : Int × Int) : (l.map fracsD).filterMap (fun d => if (unFace d).all (fun u => decide (u = o)) then some d else none) = (l.filter fun f => f.all fun u => decide (u = o)).map fracsD := by
  induction l with
  | nil => rfl
  | cons f l ih =>
    rw [List.map_cons, List.filterMap_cons, ih, unFace_fracs]
    cases e : f.all fun u => decide (u = o) with
    | true => rw [if_pos rfl, List.filter_cons_of_pos (by simpa using e)]; rfl
    | false => rw [if_neg (by decide), List.filter_cons_of_neg (by rw [e]; decide)]
theorem filter_in (l : List (List (Int × Int))) (o : Int × Int) : (!(l.filter fun f => f.all fun u => decide (u = o)).isEmpty) = inP l o := by
  unfold inP
  induction l with
  | nil => rfl
  | cons f l ih =>
    rw [List.any_cons]
    cases e : f.all fun u => decide (u = o) with
    | true => rw [List.filter_cons_of_pos (by simpa using e)]; rfl
    | false => rw [List.filter_cons_of_neg (by rw [e]; decide), ih]; rfl
theorem flat_ints (is : List Int) : (is.map Da.int).all flatD = true := by
  rw [List.all_map, List.all_eq_true]
  intro i _
  rfl
theorem inV_ints (i : Int) (is : List Int) : inV (vD (.int i)) ((is.map Da.int).map vD) = is.any fun j => decide (j = i) := by
  unfold inV
  rw [List.map_map, List.any_map]
  congr 1
theorem toP_ints (is : List Int) : toP (.lst (is.map Da.int)) = some (.list (is.map PyData.int)) := by
  rw [toP, toPs_map (g := PyData.int) fun _ => by rw [toP]]; rfl
theorem toP_nil : toP (.lst []) = some (.list []) := by rw [toP, toPs]; rfl
theorem shp_ints (is : List Int) : SeqAt.shaped (.list (is.map PyData.int)) = true := shaped_by (n := 1) (shp_list fun d hd => by
  rw [List.mem_map] at hd
  obtain ⟨i, _, rfl⟩ := hd
  exact shp_int)
theorem made_ex {a b : Int} (h : b ≠ 0) : ∃ g x y : Int, g ≠ 0 ∧ a = g * x ∧ b = g * y ∧ madeP a b = (x, y) ∧ 0 < y ∧ gcdI x y = 1 := by
  have hg : Int.gcd a b ≠ 0 := fun e => h (Int.gcd_eq_zero_iff.mp e).2
  obtain ⟨x, hx⟩ := Int.gcd_dvd_left a b
  obtain ⟨y, hy⟩ := Int.gcd_dvd_right a b
  have hgp : (0 : Int) < Int.gcd a b := by omega
  have hco : Int.gcd x y = 1 := by
    have key : ∀ g : Nat, Int.gcd a b = g → a = g * x → b = g * y → g ≠ 0 → Int.gcd x y = 1 := fun g h1 h2 h3 h4 => by
      have h5 : Int.gcd (g * x) (g * y) = g := by rw [← h2, ← h3]; exact h1
      rw [Int.gcd_mul_left] at h5
      have h6 : g * Int.gcd x y = g * 1 := by rw [Nat.mul_one]; simpa using h5
      exact Nat.eq_of_mul_eq_mul_left (Nat.pos_of_ne_zero h4) h6
    exact key _ rfl hx hy hg
  by_cases hb : b < 0
  · refine ⟨-(Int.gcd a b : Int), -x, -y, by omega, by rw [Int.neg_mul_neg]; exact hx, by rw [Int.neg_mul_neg]; exact hy, ?_, ?_, ?_⟩
    · unfold madeP
      rw [if_pos hb]
      have e1 : a.fdiv (-(gcdI a b)) = -x := by
        have : a = (-(gcdI a b)) * (-x) := by rw [Int.neg_mul_neg]; exact hx
        conv => lhs; arg 1; rw [this]
        exact Int.mul_fdiv_cancel_left _ (by unfold gcdI; omega)
      have e2 : b.fdiv (-(gcdI a b)) = -y := by
        have : b = (-(gcdI a b)) * (-y) := by rw [Int.neg_mul_neg]; exact hy
        conv => lhs; arg 1; rw [this]
        exact Int.mul_fdiv_cancel_left _ (by unfold gcdI; omega)
      show (a.fdiv (-gcdI a b), b.fdiv (-gcdI a b)) = _
      rw [e1, e2]
    · by_cases z : y < 0
      · omega
      · have := Int.mul_nonneg (Int.le_of_lt hgp) (show 0 ≤ y by omega)
        omega
    · unfold gcdI; rw [Int.neg_gcd, Int.gcd_neg, hco]; rfl
  · refine ⟨(Int.gcd a b : Int), x, y, by omega, hx, hy, ?_, ?_, ?_⟩
    · unfold madeP
      rw [if_neg hb]
      have e1 : a.fdiv (gcdI a b) = x := by
        conv => lhs; arg 1; rw [hx]
        exact Int.mul_fdiv_cancel_left _ (by omega)
      have e2 : b.fdiv (gcdI a b) = y := by
        conv => lhs; arg 1; rw [hy]
        exact Int.mul_fdiv_cancel_left _ (by omega)
      show (a.fdiv (gcdI a b), b.fdiv (gcdI a b)) = _
      rw [e1, e2]
    · by_cases z : 0 < y
      · exact z
      · have := Int.mul_nonneg (Int.le_of_lt hgp) (show 0 ≤ -y by omega)
        rw [Int.mul_neg] at this
        omega
    · unfold gcdI; rw [hco]; rfl
theorem bd_div {g x a : Int} {n : Nat} (hg : g ≠ 0) (e : a = g * x) (h : Bd n a) : Bd n x := by
  unfold Bd at *
  rw [e, Int.natAbs_mul] at h
  have : 1 * x.natAbs ≤ g.natAbs * x.natAbs := Nat.mul_le_mul_right _ (by omega)
  omega
theorem fr_made {a b : Int} (h : b ≠ 0) (ha : Bd 400 a) (hb : Bd 400 b) : FrOk (madeP a b) := by
  obtain ⟨g, x, y, hg, ea, eb, em, hp, hc⟩ := made_ex (a := a) h
  rw [em]
  exact ⟨⟨hp, hc⟩, bd_div hg ea ha, bd_div hg eb hb⟩
set_option maxHeartbeats 2000000 in
theorem ok_range_over (T : Txt K mg) : Fn P w K mg base 6 "range_over" spRangeOver := by
  have F1 : Fn P w K mg base 2 "corners_of" spCornersOf := ok_corners_of T
  have F2 : Fn P w K mg base 5 "faces_of" spFacesOf := ok_faces_of T
  have F3 : Fn P w K mg base 4 "value_of" spValueOf := ok_value_of T
  have F4 : Fn P w K mg base 5 "outermost" spOutermost := ok_outermost T
  obtain ⟨fd, F⟩ := T.says.def_ i_range_over (d := d_range_over) rfl
  refine fn_ok F (T.glo "range_over" (by kernel_rfl)) (F.bindsN fun _ _ _ _ _ _ us hl => match us, hl with | [_, _, _], _ => rfl) sc_range_over (mono_pure _) ?_
  rintro ds Θ Post ⟨d, ⟨n, top, bottom, ss, rfl, hs, ht, hb, hok, rfl⟩, h⟩
  refine ⟨rfl, ?_⟩
  show ex _ _ [some (formD top), some (formD bottom), some (sidesD ss), none, none, none, none, none, none, none, none, none, none, none] _ _
  walk_at "zz"
  refine ⟨n, top, bottom, ss, rfl, hs, ht.is, hb.is, fun r hr s hsr => (hok r hr s hsr).ok, fun q hq => ?_⟩
  have hD : updS Θ q (.dT (dictP top bottom ss)) q = some (.dT (dictP top bottom ss)) := updS_same
  walk_at "zz"
  walk_at "zvals"
  refine ⟨sz (by rw [List.length_map]; unfold dictP; rw [List.length_map]; have := crn_len hs; omega), ?_⟩
  rw [dict_vals]
  refine lcT_fm (fun d => if unFr d = (0, 0) then none else some (.int (unFr d).2)) (by kernel_rfl) (by walk_at "zat") (by kernel_rfl) (by kernel_rfl) (by intro _; walk_at "zs") ?_ ?_
  · intro d hd
    rw [List.mem_map] at hd
    obtain ⟨⟨a, b⟩, hab, rfl⟩ := hd
    refine ets_one (et_cmp (ec_neD ?_))
    walk_at "zz"
    rw [eqv2]
    refine br_nb (fun e => ?_) (fun e => ?_)
    · have e2 : ¬ ((a, b) : Int × Int) = (0, 0) := fun z => by cases z; simp at e
      walk_at "zz"
      exact if_neg e2
    · have e2 : ((a, b) : Int × Int) = (0, 0) := by
        have : a = 0 ∧ b = 0 := by simpa using e
        rw [this.1, this.2]
      exact ⟨rfl, if_pos e2⟩
  · rw [List.nil_append, fm_bot, upd_del, updS_updS]
    dsimp only [List.set]
    have hnz : (nzP (crsP top bottom ss)).length ≤ 4 := by
      have := crn_len hs
      have h2 := List.length_filter_le (fun c : Int × Int => decide (c ≠ (0, 0))) (crsP top bottom ss)
      unfold nzP
      unfold crsP at h2 ⊢
      rw [List.length_map] at h2
      omega
    generalize hz : nzP (crsP top bottom ss) = nz at hnz
    have hbl : (nz.map fun x : Int × Int => x.2).length = nz.length := List.length_map ..
    walk_at "z"
    refine ex1_if (et_imp (PB := fun k Θ' => Θ' = updS Θ q (.dT (dictP top bottom ss)) ∧ k = noP nz) (et_bo (ew_or (et_cmp (ec_in rfl ?_)))) ?_)
    · unfold noP
      generalize hbs : (nz.map fun x : Int × Int => x.2) = bs
      walk_at "zz"
      refine ⟨flat_ints _, ?_⟩
      rw [inV_ints]
      refine ⟨_, rfl, ?_⟩
      refine br_b (fun e1 => ?_) (fun e1 => ?_)
      · exact ⟨rfl, by unfold noI; rw [e1]; rfl⟩
      refine ew_or (et_cmp (ec_eqD ?_))
      walk_at "zz"
      refine ⟨_, _, toP_ints _, toP_nil, shp_ints _, rfl, ?_⟩
      rw [eqv_nil, List.isEmpty_map]
      refine ⟨_, rfl, ?_⟩
      refine br_b (fun e2 => ?_) (fun e2 => ?_)
      · exact ⟨rfl, by unfold noI; rw [e1, e2]; rfl⟩
      have hpos : 0 < bs.length := by
        cases bs with
        | nil => cases e2
        | cons b bs => simp
      walk_at "zz"
      refine ⟨hpos, fun m hm1 hm2 => ?_⟩
      walk_at "zz"
      refine br_dec (fun e3 => ?_) (fun e3 => ?_)
      · walk_at "zz"
        refine ⟨hpos, fun u hu1 hu2 => ?_⟩
        refine ⟨_, rfl, rfl, ?_⟩
        unfold noI
        rw [e1, e2, List.any_eq_true.mpr ⟨m, hm1, decide_eq_true e3⟩]
        by_cases e4 : 0 < u
        · rw [List.any_eq_true.mpr ⟨u, hu1, decide_eq_true e4⟩, decide_eq_true e4]; rfl
        · rw [List.any_eq_false.mpr fun x hx => by have := hu2 x hx; simp; omega, decide_eq_false e4]; rfl
      · refine ⟨rfl, ?_⟩
        unfold noI
        rw [e1, e2, List.any_eq_false.mpr fun x hx => by have := hm2 x hx; simp; omega]; rfl
    · rintro k Θ' ⟨rfl, rfl⟩
      refine br_b (fun e1 => ?_) (fun e1 => ?_)
      · walk_at "zz"
        refine .inl ⟨Θ, LeS.upd hq, ?_⟩
        have : rangeP top bottom ss = none := by unfold rangeP; rw [hz, if_pos e1]
        rw [this] at h
        exact h
      walk_at "zz"
      have hz0 : ∀ c, c ∈ crsP top bottom ss → c.2 = 0 → c.1 = 0 := fun c hc h0 => by
        by_cases q : c = (0, 0)
        · rw [q]
        · have : c ∈ nz := by rw [← hz]; exact List.mem_filter.mpr ⟨hc, decide_eq_true q⟩
          have e2 : noP nz = true := by
            unfold noP noI
            rw [List.any_eq_true.mpr ⟨c.2, List.mem_map_of_mem this, decide_eq_true h0⟩]
            rfl
          rw [e1] at e2
          cases e2
      refine ⟨n, q, ss, _, cP top bottom ss, rfl, hs, hD, fun lot hl k hk => ?_, ?_⟩
      · obtain ⟨c, hc1, hc2, hc3⟩ := keys_in hs lot hl k hk
        have e : cP top bottom ss k = (formP top c.2, formP bottom c.2) := by unfold cP; rw [hc1]
        exact ⟨val_dict hc1, by rw [e]; exact form_bd hs hb hok c hc2, hz0 _ (by rw [e]; exact List.mem_map_of_mem (f := fun c : List Int × List Sd => (formP top c.2, formP bottom c.2)) hc2)⟩
      generalize hfc : facesP (cP top bottom ss) ss = faces
      walk_at "z"
      walk_at "z"
      refine ex1_if (et_cmp (ec_inD rfl ?_))
      walk_at "zz"
      refine ⟨_, _, toP_nil, toP_faces _, rfl, shaped_by (shp_faces _), ?_⟩
      rw [any_faces]
      refine ⟨_, rfl, ?_⟩
      refine br_b (fun e2 => ?_) (fun e2 => ?_)
      · walk_at "zz"
        refine .inl ⟨Θ, LeS.upd hq, ?_⟩
        have : rangeP top bottom ss = none := by unfold rangeP; rw [hz, if_neg (by rw [e1]; decide), hfc, if_pos e2]
        rw [this] at h
        exact h
      walk_at "zz"
      walk_at "zvals"
      refine ⟨sz (by rw [List.length_map]; unfold dictP; rw [List.length_map]; have := crn_len hs; omega), ?_⟩
      rw [dict_vals]
      refine lcT_fm (fun d => if unFr d = (0, 0) then none else some (frD (madeP (unFr d).1 (unFr d).2))) (by kernel_rfl) (by walk_at "zat") (by kernel_rfl) (by kernel_rfl) (by intro _; walk_at "zs") ?_ ?_
      · intro d hd
        rw [List.mem_map] at hd
        obtain ⟨⟨a, b⟩, hab, rfl⟩ := hd
        refine ets_one (et_cmp (ec_neD ?_))
        walk_at "zz"
        rw [eqv2]
        refine br_nb (fun e => ?_) (fun e => ?_)
        · have e2 : ¬ ((a, b) : Int × Int) = (0, 0) := fun z => by cases z; simp at e
          have e3 : b ≠ 0 := fun z => e2 (by rw [show a = 0 from hz0 _ hab z, z])
          walk_at "zz"
          refine ⟨_, ⟨a, b, rfl, ⟨?_, fun z => absurd z e3⟩, rfl⟩, ?_⟩
          · unfold crsP at hab
            rw [List.mem_map] at hab
            obtain ⟨c, hc, hce⟩ := hab
            rw [show b = formP bottom c.2 from (congrArg Prod.snd hce).symm]
            exact form_bd hs hb hok c hc
          · exact ⟨rfl, by rw [if_neg e3]; exact if_neg e2⟩
        · have e2 : ((a, b) : Int × Int) = (0, 0) := by
            have : a = 0 ∧ b = 0 := by simpa using e
            rw [this.1, this.2]
          exact ⟨rfl, if_pos e2⟩
      rw [List.nil_append, fm_vals, upd_del, updS_updS, hz]
      dsimp only [List.set]
      generalize hvs : (nz.map fun c : Int × Int => madeP c.1 c.2) = vs
      have hvs0 : vs ≠ [] := by
        rw [← hvs]
        intro z
        have : nz = [] := List.map_eq_nil_iff.mp z
        rw [this] at e1
        cases e1
      have hvn : vs.length ≤ 100 := by rw [← hvs, List.length_map]; omega
      have hvok : ∀ v, v ∈ vs → FrOk v := fun v hv => by
        rw [← hvs, List.mem_map] at hv
        obtain ⟨c, hc, rfl⟩ := hv
        rw [← hz] at hc
        obtain ⟨hc1, hc2⟩ := List.mem_filter.mp hc
        have h0 : c.2 ≠ 0 := fun z => (of_decide_eq_true hc2) (Prod.ext (hz0 c hc1 z) z)
        unfold crsP at hc1
        rw [List.mem_map] at hc1
        obtain ⟨e, he, rfl⟩ := hc1
        exact fr_made h0 (form_bd hs ht hok e he) (form_bd hs hb hok e he)
      walk_at "z"
      refine ex1_asgSS (by intro env h; cases env; cases h; rfl) (by intro env h; cases env; cases h; rfl) ?_
      walk_at "zz"
      refine ⟨_, ⟨vs, _, rfl, ⟨hvs0, hvn, hvok⟩, rfl⟩, ?_⟩
      walk_at "zz"
      refine ⟨_, ⟨vs, _, rfl, ⟨hvs0, hvn, hvok⟩, rfl⟩, ?_⟩
      walk_at "zz"
      have hfn : faces.length ≤ 1000 := by rw [← hfc]; unfold facesP; rw [List.length_map]; exact lots_len hs
      have hfl : ∀ f, f ∈ faces → f.length ≤ 4 := fun f hf => by
        rw [← hfc] at hf
        unfold facesP at hf
        rw [List.mem_map] at hf
        obtain ⟨lot, hl, rfl⟩ := hf
        obtain ⟨_, _, k3⟩ := keys_crossed (lots_shape hs lot hl)
        have := List.length_filterMap_le (fun k => valP (cP top bottom ss k)) (keysP lot)
        unfold faceP
        omega
      generalize hlo : outerP (-1) vs = lo
      generalize hhi : outerP 1 vs = hi
      walk_at "zlc"
      refine ei_lst ?_
      walk_at "z"
      refine ⟨_, .inl rfl, sz (by rw [List.length_map]; omega), ?_⟩
      refine lcT_fm (fun d => if (unFace d).all (fun u => decide (u = lo)) then some d else none) (by kernel_rfl) (by walk_at "zat") (by kernel_rfl) (by kernel_rfl) (by intro _; walk_at "zs") ?_ ?_
      · intro d hd
        rw [List.mem_map] at hd
        obtain ⟨f, hf, rfl⟩ := hd
        have hf4 := hfl f hf
        refine ets_one (et_cmp (ec_eqD ?_))
        walk_at "zlc"
        refine ei_lst ?_
        walk_at "z"
        refine ⟨_, .inl rfl, sz (by rw [List.length_map]; omega), ?_⟩
        refine lcT_fm (fun d => if unFr d = lo then none else some d) (by kernel_rfl) (by walk_at "zat") (by kernel_rfl) (by kernel_rfl) (by intro _; walk_at "zs") ?_ ?_
        · intro d hd
          rw [List.mem_map] at hd
          obtain ⟨v, hv, rfl⟩ := hd
          refine ets_one (et_cmp (ec_neD ?_))
          walk_at "zz"
          rw [eqvF]
          refine br_nb (fun e => ?_) (fun e => ?_)
          · walk_at "zz"
            exact if_neg (of_decide_eq_false e)
          · exact ⟨rfl, if_pos (of_decide_eq_true e)⟩
        · rw [List.nil_append, fm_ne]
          walk_at "zz"
          refine ⟨_, _, toP_fracs _, toP_nil, shaped_by (shp_fac _), rfl, ?_⟩
          unfold facP
          rw [eqv_nil, List.isEmpty_map, filter_all]
          refine ⟨_, rfl, ?_⟩
          refine br_b (fun e => ?_) (fun e => ?_)
          · walk_at "zz"
            exact if_pos (by rw [unFace_fracs]; exact e)
          · exact ⟨rfl, if_neg (by rw [unFace_fracs, e]; decide)⟩
      · rw [List.nil_append, fm_all]
        walk_at "zz"
        refine ⟨_, _, toP_faces _, toP_nil, shaped_by (shp_faces _), rfl, ?_⟩
        rw [eqv_nil, List.isEmpty_map, filter_in]
        walk_at "zz"
        walk_at "zlc"
        refine ei_lst ?_
        walk_at "z"
        refine ⟨_, .inl rfl, sz (by rw [List.length_map]; omega), ?_⟩
        refine lcT_fm (fun d => if (unFace d).all (fun u => decide (u = hi)) then some d else none) (by kernel_rfl) (by walk_at "zat") (by kernel_rfl) (by kernel_rfl) (by intro _; walk_at "zs") ?_ ?_
        · intro d hd
          rw [List.mem_map] at hd
          obtain ⟨f, hf, rfl⟩ := hd
          have hf4 := hfl f hf
          refine ets_one (et_cmp (ec_eqD ?_))
          walk_at "zlc"
          refine ei_lst ?_
          walk_at "z"
          refine ⟨_, .inl rfl, sz (by rw [List.length_map]; omega), ?_⟩
          refine lcT_fm (fun d => if unFr d = hi then none else some d) (by kernel_rfl) (by walk_at "zat") (by kernel_rfl) (by kernel_rfl) (by intro _; walk_at "zs") ?_ ?_
          · intro d hd
            rw [List.mem_map] at hd
            obtain ⟨v, hv, rfl⟩ := hd
            refine ets_one (et_cmp (ec_neD ?_))
            walk_at "zz"
            rw [eqvF]
            refine br_nb (fun e => ?_) (fun e => ?_)
            · walk_at "zz"
              exact if_neg (of_decide_eq_false e)
            · exact ⟨rfl, if_pos (of_decide_eq_true e)⟩
          · rw [List.nil_append, fm_ne]
            walk_at "zz"
            refine ⟨_, _, toP_fracs _, toP_nil, shaped_by (shp_fac _), rfl, ?_⟩
            unfold facP
            rw [eqv_nil, List.isEmpty_map, filter_all]
            refine ⟨_, rfl, ?_⟩
            refine br_b (fun e => ?_) (fun e => ?_)
            · walk_at "zz"
              exact if_pos (by rw [unFace_fracs]; exact e)
            · exact ⟨rfl, if_neg (by rw [unFace_fracs, e]; decide)⟩
        · rw [List.nil_append, fm_all]
          walk_at "zz"
          refine ⟨_, _, toP_faces _, toP_nil, shaped_by (shp_faces _), rfl, ?_⟩
          rw [eqv_nil, List.isEmpty_map, filter_in]
          walk_at "zz"
          refine .inl ⟨Θ, LeS.upd hq, ?_⟩
          have : rangeP top bottom ss = some (lo, inP faces lo, hi, inP faces hi) := by
            unfold rangeP
            rw [hz, if_neg (by rw [e1]; decide), hfc, if_neg (by rw [e2]; decide), hvs, hlo, hhi]
          rw [this] at h
          exact h
end
/-! ## K95J -/
section
variable {P : Program} {w : World} {K : Frag} {mg : Str → Option Value} {base : Heap}
inductive Kd where
  | fl | ce | ne
def Kd.word : Kd → Str
  | .fl => "floor"
  | .ce => "ceil"
  | .ne => "near"
def Kd.cls : Kd → Str
  | .fl => "Manner"
  | .ce => "Ceils"
  | .ne => "Nears"
abbrev kA (K : Frag) (k : Kd) : Addr := He.ga K k.cls
def fitsP : Kd → Option Int → Int → Bool
  | .fl, _, t => decide (1 ≤ t)
  | .ce, _, t => decide (2 ≤ t)
  | .ne, a, t => if -2 < t ∧ t < 2 then false else if a = some 2 then decide (0 < t) else decide (a ≠ some (-2)) || decide (t < 0)
def optD : Option Int → Da
  | none => .non
  | some i => .int i
abbrev spFits (k : Kd) : SpD := pureSp fun ds d => ∃ (q : Addr) (a : Option Int) (t : Int), ds = [.obj q, optD a, .int t] ∧ d = .bl (fitsP k a t)
set_option maxHeartbeats 1000000 in
theorem ok_fits_fl (T : Txt K mg) : Mt P w K mg base 1 (kA K .fl) "fits" (spFits .fl) := by
  obtain ⟨fd, F⟩ := T.says.def_ i_Manner__fits (d := d_Manner__fits) rfl
  have cC : Cls K (kA K .fl) := T.cls "Manner" (by kernel_rfl)
  have hM : Meth K (kA K .fl) "fits" (He.fAd K d_Manner__fits.at_) := T.mth "Manner" "fits" (by kernel_rfl)
  have hB : Binds K fd ["self", "ahead", "term"] [] := F.bindsN fun _ _ _ _ _ _ us hl => match us, hl with | [_, _, _], _ => rfl
  refine mt_ok F cC hM hB sc_Manner__fits (mono_pure _) ?_
  rintro ds Θ Post ⟨d, ⟨q, a, t, rfl, rfl⟩, h⟩
  refine ⟨rfl, ?_⟩
  show ex _ _ [some (.obj q), some (optD a), some (.int t)] _ _
  walk_at "zz"
  exact fin h
set_option maxHeartbeats 1000000 in
theorem ok_fits_ce (T : Txt K mg) : Mt P w K mg base 1 (kA K .ce) "fits" (spFits .ce) := by
  obtain ⟨fd, F⟩ := T.says.def_ i_Ceils__fits (d := d_Ceils__fits) rfl
  have cC : Cls K (kA K .ce) := T.cls "Ceils" (by kernel_rfl)
  have hM : Meth K (kA K .ce) "fits" (He.fAd K d_Ceils__fits.at_) := T.mth "Ceils" "fits" (by kernel_rfl)
  have hB : Binds K fd ["self", "ahead", "term"] [] := F.bindsN fun _ _ _ _ _ _ us hl => match us, hl with | [_, _, _], _ => rfl
  refine mt_ok F cC hM hB sc_Ceils__fits (mono_pure _) ?_
  rintro ds Θ Post ⟨d, ⟨q, a, t, rfl, rfl⟩, h⟩
  refine ⟨rfl, ?_⟩
  show ex _ _ [some (.obj q), some (optD a), some (.int t)] _ _
  walk_at "zz"
  exact fin h
set_option maxHeartbeats 1000000 in
theorem ok_fits_ne (T : Txt K mg) : Mt P w K mg base 1 (kA K .ne) "fits" (spFits .ne) := by
  obtain ⟨fd, F⟩ := T.says.def_ i_Nears__fits (d := d_Nears__fits) rfl
  have cC : Cls K (kA K .ne) := T.cls "Nears" (by kernel_rfl)
  have hM : Meth K (kA K .ne) "fits" (He.fAd K d_Nears__fits.at_) := T.mth "Nears" "fits" (by kernel_rfl)
  have hB : Binds K fd ["self", "ahead", "term"] [] := F.bindsN fun _ _ _ _ _ _ us hl => match us, hl with | [_, _, _], _ => rfl
  refine mt_ok F cC hM hB sc_Nears__fits (mono_pure _) ?_
  rintro ds Θ Post ⟨d, ⟨q, a, t, rfl, rfl⟩, h⟩
  refine ⟨rfl, ?_⟩
  show ex _ _ [some (.obj q), some (optD a), some (.int t)] _ _
  walk_at "z"
  refine ex1_if (et_imp (PB := fun k Θ' => Θ' = Θ ∧ k = decide (-2 < t ∧ t < 2)) ?_ ?_)
  · walk_at "zz"
    refine br_dec (fun e1 => ?_) (fun e1 => ?_)
    · walk_at "zz"
      simp [e1]
    · exact ⟨rfl, by simp [e1]⟩
  rintro k Θ' ⟨rfl, rfl⟩
  refine br_dec (fun e1 => ?_) (fun e1 => ?_)
  · walk_at "zz"
    rw [show fitsP .ne a t = false from if_pos e1] at h
    exact fin h
  rw [show fitsP .ne a t = (if a = some 2 then decide (0 < t) else decide (a ≠ some (-2)) || decide (t < 0)) from if_neg e1] at h
  walk_at "z"
  walk_at "z"
  cases a with
  | none =>
    refine ex1_if (et_cmp (ec_eqS ?_))
    walk_at "z"
    walk_at "z"
    refine ⟨_, _, rfl, rfl, rfl, ?_⟩
    refine ⟨_, rfl, ?_⟩
    refine br_dec (fun e => by cases e) (fun _ => ?_)
    walk_at "z"
    walk_at "z"
    refine ex1_ret (ev_or (ev_cmp (ec_neS ?_)))
    walk_at "z"
    walk_at "z"
    walk_at "z"
    walk_at "z"
    refine ⟨_, _, rfl, rfl, rfl, ?_⟩
    refine ⟨_, rfl, ?_⟩
    refine br_ndec (fun _ => ?_) (fun e => by cases e)
    exact fin h
  | some i =>
    walk_at "zz"
    refine br_dec (fun e => ?_) (fun e => ?_)
    · walk_at "zz"
      rw [if_pos (by rw [e])] at h
      exact fin h
    · walk_at "zz"
      rw [if_neg (fun z => e (Option.some.inj z))] at h
      refine br_ndec (fun e2 => ?_) (fun e2 => ?_)
      · have : (decide (some i ≠ some (-2)) || decide (t < 0)) = true := by simp; exact .inl e2
        rw [this] at h
        exact fin h
      · walk_at "zz"
        have : (decide (some i ≠ some (-2)) || decide (t < 0)) = decide (t < 0) := by simp [e2]
        rw [this] at h
        exact fin h
def beginsP : Kd → List Sd
  | .ne => [⟨2, 1, false⟩, ⟨2, -1, true⟩]
  | _ => [⟨1, 1, false⟩, ⟨1, 0, true⟩]
def behindP : Kd → Int → List Sd
  | .fl, l => [⟨1, 1, false⟩, ⟨1, 0, decide (l ≠ 1)⟩]
  | .ce, _ => beginsP .ce
  | .ne, l => if l = 2 then [⟨2, 1, false⟩, ⟨1, 0, false⟩] else if l = -2 then [⟨1, 0, true⟩, ⟨2, -1, true⟩] else beginsP .ne
abbrev tupD (l : List Sd) : Da := .tup (l.map Sd.D)
abbrev spBegins (k : Kd) : SpD := pureSp fun ds d => ∃ (q : Addr), ds = [.obj q] ∧ d = tupD (beginsP k)
set_option maxHeartbeats 1000000 in
theorem ok_begins_fl (T : Txt K mg) : Mt P w K mg base 1 (kA K .fl) "begins" (spBegins .fl) := by
  obtain ⟨fd, F⟩ := T.says.def_ i_Manner__begins (d := d_Manner__begins) rfl
  have cC : Cls K (kA K .fl) := T.cls "Manner" (by kernel_rfl)
  have hM : Meth K (kA K .fl) "begins" (He.fAd K d_Manner__begins.at_) := T.mth "Manner" "begins" (by kernel_rfl)
  have hB : Binds K fd ["self"] [] := F.bindsN fun _ _ _ _ _ _ us hl => match us, hl with | [_], _ => rfl
  refine mt_ok F cC hM hB sc_Manner__begins (mono_pure _) ?_
  rintro ds Θ Post ⟨d, ⟨q, rfl, rfl⟩, h⟩
  refine ⟨rfl, ?_⟩
  show ex _ _ [some (.obj q)] _ _
  walk_at "zz"
  exact fin h
set_option maxHeartbeats 1000000 in
theorem ok_begins_ce (T : Txt K mg) : Mt P w K mg base 1 (kA K .ce) "begins" (spBegins .ce) := by
  obtain ⟨fd, F⟩ := T.says.def_ i_Manner__begins (d := d_Manner__begins) rfl
  have cC : Cls K (kA K .ce) := T.cls "Ceils" (by kernel_rfl)
  have hM : Meth K (kA K .ce) "begins" (He.fAd K d_Manner__begins.at_) := T.inh
  have hB : Binds K fd ["self"] [] := F.bindsN fun _ _ _ _ _ _ us hl => match us, hl with | [_], _ => rfl
  refine mt_ok F cC hM hB sc_Manner__begins (mono_pure _) ?_
  rintro ds Θ Post ⟨d, ⟨q, rfl, rfl⟩, h⟩
  refine ⟨rfl, ?_⟩
  show ex _ _ [some (.obj q)] _ _
  walk_at "zz"
  exact fin h
set_option maxHeartbeats 1000000 in
theorem ok_begins_ne (T : Txt K mg) : Mt P w K mg base 1 (kA K .ne) "begins" (spBegins .ne) := by
  obtain ⟨fd, F⟩ := T.says.def_ i_Nears__begins (d := d_Nears__begins) rfl
  have cC : Cls K (kA K .ne) := T.cls "Nears" (by kernel_rfl)
  have hM : Meth K (kA K .ne) "begins" (He.fAd K d_Nears__begins.at_) := T.mth "Nears" "begins" (by kernel_rfl)
  have hB : Binds K fd ["self"] [] := F.bindsN fun _ _ _ _ _ _ us hl => match us, hl with | [_], _ => rfl
  refine mt_ok F cC hM hB sc_Nears__begins (mono_pure _) ?_
  rintro ds Θ Post ⟨d, ⟨q, rfl, rfl⟩, h⟩
  refine ⟨rfl, ?_⟩
  show ex _ _ [some (.obj q)] _ _
  walk_at "zz"
  exact fin h
abbrev spBehind (K : Frag) (k : Kd) : SpD := fun ds Θ Post => ∃ (q : Addr) (l : Int), ds = [.obj q, .int l] ∧ Θ q = some (.ins (kA K k) []) ∧ Post (tupD (behindP k l)) Θ
theorem mono_behind (k : Kd) : Mono (spBehind K k) := fun _ _ _ _ q ⟨z, l, e, h, p⟩ => ⟨z, l, e, h, q _ _ p⟩
set_option maxHeartbeats 1000000 in
theorem ok_behind_fl (T : Txt K mg) : Mt P w K mg base 2 (kA K .fl) "cone_behind" (spBehind K .fl) := by
  obtain ⟨fd, F⟩ := T.says.def_ i_Manner__cone_behind (d := d_Manner__cone_behind) rfl
  have cC : Cls K (kA K .fl) := T.cls "Manner" (by kernel_rfl)
  have hM : Meth K (kA K .fl) "cone_behind" (He.fAd K d_Manner__cone_behind.at_) := T.mth "Manner" "cone_behind" (by kernel_rfl)
  have hB : Binds K fd ["self", "last"] [] := F.bindsN fun _ _ _ _ _ _ us hl => match us, hl with | [_, _], _ => rfl
  refine mt_ok F cC hM hB sc_Manner__cone_behind (mono_behind _) ?_
  rintro ds Θ Post ⟨q, l, rfl, hq, h⟩
  refine ⟨rfl, ?_⟩
  show ex _ _ [some (.obj q), some (.int l)] _ _
  walk_at "zz"
  rw [show (!decide (l = 1)) = decide (l ≠ 1) by simp]
  exact fin h
set_option maxHeartbeats 1000000 in
theorem ok_behind_ce (T : Txt K mg) : Mt P w K mg base 2 (kA K .ce) "cone_behind" (spBehind K .ce) := by
  have M : Mt P w K mg base 1 (kA K .ce) "begins" (spBegins .ce) := ok_begins_ce T
  obtain ⟨fd, F⟩ := T.says.def_ i_Ceils__cone_behind (d := d_Ceils__cone_behind) rfl
  have cC : Cls K (kA K .ce) := T.cls "Ceils" (by kernel_rfl)
  have hM : Meth K (kA K .ce) "cone_behind" (He.fAd K d_Ceils__cone_behind.at_) := T.mth "Ceils" "cone_behind" (by kernel_rfl)
  have hB : Binds K fd ["self", "last"] [] := F.bindsN fun _ _ _ _ _ _ us hl => match us, hl with | [_, _], _ => rfl
  refine mt_ok F cC hM hB sc_Ceils__cone_behind (mono_behind _) ?_
  rintro ds Θ Post ⟨q, l, rfl, hq, h⟩
  refine ⟨rfl, ?_⟩
  show ex _ _ [some (.obj q), some (.int l)] _ _
  walk_at "z"
  refine ex1_ret (ev_meth0 M (Nat.le_of_ble_eq_true (by rfl)) ?_)
  walk_at "zz"
  refine ⟨_, _, rfl, hq, rfl, ?_⟩
  exact ⟨_, ⟨q, rfl, rfl⟩, fin h⟩
set_option maxHeartbeats 1000000 in
theorem ok_behind_ne (T : Txt K mg) : Mt P w K mg base 2 (kA K .ne) "cone_behind" (spBehind K .ne) := by
  have M : Mt P w K mg base 1 (kA K .ne) "begins" (spBegins .ne) := ok_begins_ne T
  obtain ⟨fd, F⟩ := T.says.def_ i_Nears__cone_behind (d := d_Nears__cone_behind) rfl
  have cC : Cls K (kA K .ne) := T.cls "Nears" (by kernel_rfl)
  have hM : Meth K (kA K .ne) "cone_behind" (He.fAd K d_Nears__cone_behind.at_) := T.mth "Nears" "cone_behind" (by kernel_rfl)
  have hB : Binds K fd ["self", "last"] [] := F.bindsN fun _ _ _ _ _ _ us hl => match us, hl with | [_, _], _ => rfl
  refine mt_ok F cC hM hB sc_Nears__cone_behind (mono_behind _) ?_
  rintro ds Θ Post ⟨q, l, rfl, hq, h⟩
  refine ⟨rfl, ?_⟩
  show ex _ _ [some (.obj q), some (.int l)] _ _
  walk_at "zz"
  change Post (tupD (if l = 2 then [⟨2, 1, false⟩, ⟨1, 0, false⟩] else if l = -2 then [⟨1, 0, true⟩, ⟨2, -1, true⟩] else beginsP .ne)) Θ at h
  refine br_dec (fun e => ?_) (fun e => ?_)
  · walk_at "zz"
    rw [if_pos e] at h
    exact fin h
  walk_at "zz"
  rw [if_neg e] at h
  refine br_dec (fun e2 => ?_) (fun e2 => ?_)
  · walk_at "zz"
    rw [if_pos e2] at h
    exact fin h
  walk_at "z"
  walk_at "z"
  rw [if_neg e2] at h
  refine ex1_ret (ev_meth0 M (Nat.le_of_ble_eq_true (by rfl)) ?_)
  walk_at "zz"
  refine ⟨_, _, rfl, hq, rfl, ?_⟩
  exact ⟨_, ⟨q, rfl, rfl⟩, fin h⟩
end
/-! ## K95K -/
section
variable {P : Program} {w : World} {K : Frag} {mg : Str → Option Value} {base : Heap}
theorem ok_fits (T : Txt K mg) : ∀ k, Mt P w K mg base 1 (kA K k) "fits" (spFits k)
  | .fl => ok_fits_fl T
  | .ce => ok_fits_ce T
  | .ne => ok_fits_ne T
theorem ok_begins (T : Txt K mg) : ∀ k, Mt P w K mg base 1 (kA K k) "begins" (spBegins k)
  | .fl => ok_begins_fl T
  | .ce => ok_begins_ce T
  | .ne => ok_begins_ne T
theorem ok_behind (T : Txt K mg) : ∀ k, Mt P w K mg base 2 (kA K k) "cone_behind" (spBehind K k)
  | .fl => ok_behind_fl T
  | .ce => ok_behind_ce T
  | .ne => ok_behind_ne T
abbrev spIsManner : SpD := pureSp fun ds d => ∃ k : Kd, ds = [.str k.word] ∧ d = .bl true
theorem inV_manner (k : Kd) : inV (vD (.str k.word)) (([.str "floor", .str "ceil", .str "near"] : List Da).map vD) = true := by cases k <;> decide +kernel
set_option maxHeartbeats 1000000 in
theorem ok_is_manner (T : Txt K mg) : Fn P w K mg base 1 "is_manner" spIsManner := by
  obtain ⟨fd, F⟩ := T.says.def_ i_is_manner (d := d_is_manner) rfl
  refine fn_ok F (T.glo "is_manner" (by kernel_rfl)) (F.bindsN fun _ _ _ _ _ _ us hl => match us, hl with | [_], _ => rfl) sc_is_manner (mono_pure _) ?_
  rintro ds Θ Post ⟨d, ⟨k, rfl, rfl⟩, h⟩
  refine ⟨rfl, ?_⟩
  show ex _ _ [some (.str k.word)] _ _
  walk_at "z"
  refine ex1_ret (ev_and ?_)
  walk_at "zz"
  refine ec_in (by rfl) ?_
  walk_at "z"
  refine ev_glob (v := .ref (He.ga K "MANNERS")) (d := .wtp [.str "floor", .str "ceil", .str "near"]) (gsB_of (by kernel_rfl)) (T.glo "MANNERS" (by kernel_rfl)) rfl (fun H => Dv.wtp (T.mnr H) (.cons (.str _) (.cons (.str _) (.one (.str _))))) ?_
  refine ⟨_, seqWt, rfl, rfl, ?_⟩
  rw [inV_manner]
  exact fin h
abbrev spMannerOf (K : Frag) : SpD := fun ds Θ Post => ∃ k : Kd, ds = [.str k.word] ∧ ∀ q, Θ q = none → Post (.obj q) (updS Θ q (.ins (kA K k) []))
theorem mono_manner_of : Mono (spMannerOf K) := fun _ _ _ _ q ⟨k, e, h⟩ => ⟨k, e, fun z hz => q _ _ (h z hz)⟩
set_option maxHeartbeats 1000000 in
theorem ok_manner_of (T : Txt K mg) : Fn P w K mg base 2 "manner_of" (spMannerOf K) := by
  have F1 : Fn P w K mg base 1 "is_manner" spIsManner := ok_is_manner T
  obtain ⟨fd, F⟩ := T.says.def_ i_manner_of (d := d_manner_of) rfl
  refine fn_ok F (T.glo "manner_of" (by kernel_rfl)) (F.bindsN fun _ _ _ _ _ _ us hl => match us, hl with | [_], _ => rfl) sc_manner_of (mono_manner_of) ?_
  rintro ds Θ Post ⟨k, rfl, h⟩
  refine ⟨rfl, ?_⟩
  show ex _ _ [some (.str k.word)] _ _
  obtain ⟨t1, e1⟩ := T.str "CEIL" "ceil" (by kernel_rfl)
  obtain ⟨t2, e2⟩ := T.str "NEAR" "near" (by kernel_rfl)
  walk_at "zu"
  walk_at "z"
  walk_at "zu"
  refine ex1_if (et_cmp (ec_eqT ?_))
  walk_at "z"
  refine ev_glob (v := .str "ceil") (d := .str "ceil") (gsB_of (by kernel_rfl)) e1 ⟨t1, rfl⟩ (fun H => .str _) ?_
  refine ⟨_, _, rfl, rfl, ?_⟩
  refine ⟨_, rfl, ?_⟩
  refine br_dec (fun e => ?_) (fun e => ?_)
  · have : k = .ce := by
      revert e
      cases k <;> first | (intro _; rfl) | (intro e; exact absurd e (by decide +kernel))
    subst this
    walk_at "z"
    refine ex1_ret (ev_make0 (T.mk0 "Ceils" (by kernel_rfl)) (gsB_of (by kernel_rfl)) (T.glo "Ceils" (by kernel_rfl)) fun q hq => ?_)
    exact fin (h q hq)
  walk_at "z"
  walk_at "z"
  refine ex1_if (et_cmp (ec_eqT ?_))
  walk_at "z"
  refine ev_glob (v := .str "near") (d := .str "near") (gsB_of (by kernel_rfl)) e2 ⟨t2, rfl⟩ (fun H => .str _) ?_
  refine ⟨_, _, rfl, rfl, ?_⟩
  refine ⟨_, rfl, ?_⟩
  refine br_dec (fun e' => ?_) (fun e' => ?_)
  · have : k = .ne := by
      revert e'
      cases k <;> first | (intro _; rfl) | (intro e; exact absurd e (by decide +kernel))
    subst this
    walk_at "z"
    refine ex1_ret (ev_make0 (T.mk0 "Nears" (by kernel_rfl)) (gsB_of (by kernel_rfl)) (T.glo "Nears" (by kernel_rfl)) fun q hq => ?_)
    exact fin (h q hq)
  · have : k = .fl := by
      cases k
      · rfl
      · exact absurd rfl e
      · exact absurd rfl e'
    subst this
    walk_at "z"
    walk_at "z"
    refine ex1_ret (ev_make0 (T.mk0 "Manner" (by kernel_rfl)) (gsB_of (by kernel_rfl)) (T.glo "Manner" (by kernel_rfl)) fun q hq => ?_)
    exact fin (h q hq)
inductive Legal : Kd → List Int → Prop
  | one {k : Kd} {a : Int} : Legal k [a]
  | two {k : Kd} {a b : Int} : fitsP k none b = true → Legal k [a, b]
  | three {k : Kd} {a b c : Int} : fitsP k none b = true → fitsP k (some b) c = true → Legal k [a, b, c]
abbrev spIsBeg (K : Frag) : SpD := fun ds Θ Post => ∃ (k : Kd) (q : Addr) (ts : List Int), ds = [.obj q, formD ts] ∧ Θ q = some (.ins (kA K k) []) ∧ Legal k ts ∧ Post (.bl true) Θ
theorem mono_is_beg : Mono (spIsBeg K) := fun _ _ _ _ q ⟨k, z, ts, e, h, l, p⟩ => ⟨k, z, ts, e, h, l, q _ _ p⟩
theorem rb1 {x : Da} : rngD 1 ((([x].length : Nat) : Int) - 1).toNat = [] := by kernel_rfl
theorem rb2 {x y : Da} : rngD 1 ((([x, y].length : Nat) : Int) - 1).toNat = [.int 1] := by kernel_rfl
theorem rb3 {x y z : Da} : rngD 1 ((([x, y, z].length : Nat) : Int) - 1).toNat = [.int 1, .int 2] := by kernel_rfl
set_option maxHeartbeats 2000000 in
theorem ok_is_beginning (T : Txt K mg) : Fn P w K mg base 2 "is_beginning" (spIsBeg K) := by
  have F1 : Fn P w K mg base 1 "is_number" spIsNumber := ok_is_number T
  obtain ⟨fd, F⟩ := T.says.def_ i_is_beginning (d := d_is_beginning) rfl
  refine fn_ok F (T.glo "is_beginning" (by kernel_rfl)) (F.bindsN fun _ _ _ _ _ _ us hl => match us, hl with | [_, _], _ => rfl) sc_is_beginning (mono_is_beg) ?_
  rintro ds Θ Post ⟨k, q, ts, rfl, hq, hl, h⟩
  have M := ok_fits (P := P) (w := w) (base := base) T k
  refine ⟨rfl, ?_⟩
  cases hl with
  | one =>
    show ex _ _ [some (.obj q), some (.lst [.int _]), none, none] _ _
    walk_at "zz"
    refine ⟨_, ["list", "tuple"], true, rfl, rfl, by kernel_rfl, ?_⟩
    refine ⟨_, rfl, ?_⟩
    walk_at "zz"
    walk_at "zlc"
    refine ei_lst ?_
    walk_at "zz"
    refine ⟨[true], rfl, ?_⟩
    refine ⟨_, rfl, ?_⟩
    refine br_nb (fun e => by cases e) (fun _ => ?_)
    walk_at "zz"
    refine ex1_forU (ei_range2 (by walk_at "zb") ?_)
    walk_at "zz"
    refine ⟨⟨by decide, by decide, by walk_at "zn", by walk_at "zn"⟩, ?_⟩
    rw [rb1]
    walk_at "zz"
    exact fin h
  | two e1 =>
    show ex _ _ [some (.obj q), some (.lst [.int _, .int _]), none, none] _ _
    walk_at "zz"
    refine ⟨_, ["list", "tuple"], true, rfl, rfl, by kernel_rfl, ?_⟩
    refine ⟨_, rfl, ?_⟩
    walk_at "zz"
    walk_at "zlc"
    refine ei_lst ?_
    walk_at "zz"
    refine ⟨[true, true], rfl, ?_⟩
    refine ⟨_, rfl, ?_⟩
    refine br_nb (fun e => by cases e) (fun _ => ?_)
    walk_at "zz"
    refine ex1_forU (ei_range2 (by walk_at "zb") ?_)
    walk_at "zz"
    refine ⟨⟨by decide, by decide, by walk_at "zn", by walk_at "zn"⟩, ?_⟩
    rw [rb2]
    walk_at "zz"
    refine ev_meth M (Nat.le_of_ble_eq_true (by rfl)) ?_
    walk_at "zz"
    refine ⟨_, _, rfl, hq, rfl, ?_⟩
    walk_at "zz"
    refine ⟨_, ⟨q, none, _, rfl, rfl⟩, ?_⟩
    rw [e1]
    walk_at "zz"
    exact fin h
  | three e1 e2 =>
    show ex _ _ [some (.obj q), some (.lst [.int _, .int _, .int _]), none, none] _ _
    walk_at "zz"
    refine ⟨_, ["list", "tuple"], true, rfl, rfl, by kernel_rfl, ?_⟩
    refine ⟨_, rfl, ?_⟩
    walk_at "zz"
    walk_at "zlc"
    refine ei_lst ?_
    walk_at "zz"
    refine ⟨[true, true, true], rfl, ?_⟩
    refine ⟨_, rfl, ?_⟩
    refine br_nb (fun e => by cases e) (fun _ => ?_)
    walk_at "zz"
    refine ex1_forU (ei_range2 (by walk_at "zb") ?_)
    walk_at "zz"
    refine ⟨⟨by decide, by decide, by walk_at "zn", by walk_at "zn"⟩, ?_⟩
    rw [rb3]
    walk_at "zz"
    refine ev_meth M (Nat.le_of_ble_eq_true (by rfl)) ?_
    walk_at "zz"
    refine ⟨_, _, rfl, hq, rfl, ?_⟩
    walk_at "zz"
    refine ⟨_, ⟨q, none, _, rfl, rfl⟩, ?_⟩
    rw [e1]
    walk_at "zz"
    refine ev_meth M (Nat.le_of_ble_eq_true (by rfl)) ?_
    walk_at "zz"
    refine ⟨_, _, rfl, hq, rfl, ?_⟩
    walk_at "zz"
    refine ⟨_, ⟨q, some _, _, rfl, rfl⟩, ?_⟩
    rw [e2]
    walk_at "zz"
    exact fin h
end
/-! ## K95L -/
section
variable {P : Program} {w : World} {K : Frag} {mg : Str → Option Value} {base : Heap}
abbrev spNeedBeg (K : Frag) : SpD := fun ds Θ Post => ∃ (k : Kd) (q : Addr) (ts : List Int), ds = [.obj q, formD ts] ∧ Θ q = some (.ins (kA K k) []) ∧ Legal k ts ∧ Post .non Θ
theorem mono_need_beg : Mono (spNeedBeg K) := fun _ _ _ _ q ⟨k, z, ts, e, h, l, p⟩ => ⟨k, z, ts, e, h, l, q _ _ p⟩
set_option maxHeartbeats 1000000 in
theorem ok_need_beginning (T : Txt K mg) : Fn P w K mg base 3 "need_beginning" (spNeedBeg K) := by
  have F1 : Fn P w K mg base 2 "is_beginning" (spIsBeg K) := ok_is_beginning T
  obtain ⟨fd, F⟩ := T.says.def_ i_need_beginning (d := d_need_beginning) rfl
  refine fn_ok F (T.glo "need_beginning" (by kernel_rfl)) (F.bindsN fun _ _ _ _ _ _ us hl => match us, hl with | [_, _], _ => rfl) sc_need_beginning (mono_need_beg) ?_
  rintro ds Θ Post ⟨k, q, ts, rfl, hq, hl, h⟩
  refine ⟨rfl, ?_⟩
  show ex _ _ [some (.obj q), some (formD ts)] _ _
  walk_at "zz"
  refine ⟨k, q, ts, rfl, hq, hl, ?_⟩
  walk_at "zz"
  exact finN h
def coneP (k : Kd) : List Int → List Sd
  | [_] => beginsP k
  | [_, b] => behindP k b
  | [_, _, c] => behindP k c
  | _ => []
abbrev spCone : SpD := pureSp fun ds d => ∃ (k : Kd) (ts : List Int), ds = [formD ts, .str k.word] ∧ Legal k ts ∧ d = tupD (coneP k ts)
set_option maxHeartbeats 1000000 in
theorem ok_cone (T : Txt K mg) : Fn P w K mg base 4 "cone" spCone := by
  have F1 : Fn P w K mg base 2 "manner_of" (spMannerOf K) := ok_manner_of T
  have F2 : Fn P w K mg base 3 "need_beginning" (spNeedBeg K) := ok_need_beginning T
  obtain ⟨fd, F⟩ := T.says.def_ i_cone (d := d_cone) rfl
  obtain ⟨dsD, hvD, hbD⟩ := F.binds1 (ps := ["terms", "manner"]) 2 1 (by intro e; cases e) rfl (fun _ _ _ _ _ _ _ us its h1 h2 => match us, its, h1, h2 with | [_, _], [_], _, _ => ⟨_, rfl, rfl⟩)
  cases hvD
  refine fn_ok F (T.glo "cone" (by kernel_rfl)) hbD sc_cone (mono_pure _) ?_
  rintro ds Θ Post ⟨d, ⟨k, ts, rfl, hl, rfl⟩, h⟩
  have M1 := ok_begins (P := P) (w := w) (base := base) T k
  have M2 := ok_behind (P := P) (w := w) (base := base) T k
  refine ⟨rfl, ?_⟩
  show ex _ _ [some (formD ts), some (.str k.word), none] _ _
  walk_at "zz"
  intro q hq
  have hq2 : updS Θ q (.ins (kA K k) []) q = some (.ins (kA K k) []) := updS_same
  walk_at "zz"
  refine ⟨k, q, ts, rfl, hq2, hl, ?_⟩
  cases hl with
  | one =>
    show ex _ _ [some (.lst [.int _]), _, _] _ _
    walk_at "zz"
    refine ev_meth0 M1 (Nat.le_of_ble_eq_true (by rfl)) ?_
    walk_at "zz"
    refine ⟨_, _, rfl, hq2, rfl, ?_⟩
    exact ⟨_, ⟨q, rfl, rfl⟩, .inl ⟨Θ, LeS.upd hq, h⟩⟩
  | two e1 =>
    show ex _ _ [some (.lst [.int _, .int _]), _, _] _ _
    walk_at "zz"
    refine ev_meth M2 (Nat.le_of_ble_eq_true (by rfl)) ?_
    walk_at "zz"
    refine ⟨_, _, rfl, hq2, rfl, ?_⟩
    walk_at "zz"
    exact ⟨q, _, rfl, hq2, .inl ⟨Θ, LeS.upd hq, h⟩⟩
  | three e1 e2 =>
    show ex _ _ [some (.lst [.int _, .int _, .int _]), _, _] _ _
    walk_at "zz"
    refine ev_meth M2 (Nat.le_of_ble_eq_true (by rfl)) ?_
    walk_at "zz"
    refine ⟨_, _, rfl, hq2, rfl, ?_⟩
    walk_at "zz"
    exact ⟨q, _, rfl, hq2, .inl ⟨Θ, LeS.upd hq, h⟩⟩
def sidesP (k : Kd) (ts : List Int) (e : Bool) : Rw := if e then [⟨1, 0, true⟩] else coneP k ts
abbrev spSidesOf : SpD := pureSp fun ds d => ∃ (k : Kd) (ts : List Int) (e : Bool), ds = [formD ts, .bl e, .str k.word] ∧ Legal k ts ∧ d = rowD (sidesP k ts e)
set_option maxHeartbeats 1000000 in
theorem ok_sides_of (T : Txt K mg) : Fn P w K mg base 5 "sides_of" spSidesOf := by
  have F1 : Fn P w K mg base 4 "cone" spCone := ok_cone T
  obtain ⟨fd, F⟩ := T.says.def_ i_sides_of (d := d_sides_of) rfl
  refine fn_ok F (T.glo "sides_of" (by kernel_rfl)) (F.bindsN fun _ _ _ _ _ _ us hl => match us, hl with | [_, _, _], _ => rfl) sc_sides_of (mono_pure _) ?_
  rintro ds Θ Post ⟨d, ⟨k, ts, e, rfl, hl, rfl⟩, h⟩
  refine ⟨rfl, ?_⟩
  cases e with
  | true =>
    show ex _ _ [some (formD ts), some (.bl true), some (.str k.word)] _ _
    walk_at "zz"
    exact fin h
  | false =>
    show ex _ _ [some (formD ts), some (.bl false), some (.str k.word)] _ _
    walk_at "zz"
    refine ⟨_, ⟨k, ts, rfl, hl, rfl⟩, ?_⟩
    walk_at "zz"
    exact fin h
end
/-! ## K95M -/
section
variable {P : Program} {w : World} {K : Frag} {mg : Str → Option Value} {base : Heap}
abbrev spCell : SpD := fun ds Θ Post => ∃ (ns : List Int) (k : Int), ds = [.wls (ns.map .int), .int k] ∧ 0 ≤ k ∧ k < 1000 ∧ ∀ i : Int, Post (.int i) Θ
theorem mono_cell : Mono spCell := fun _ _ _ _ q ⟨ns, k, e, h, h2, p⟩ => ⟨ns, k, e, h, h2, fun i => q _ _ (p i)⟩
theorem at_ints {ns : List Int} {k : Int} (h0 : 0 ≤ k) (h : k < (ns.length : Int)) : atI (ns.map Da.int) k = some (.int (ns.getD k.toNat 0)) := by
  unfold atI ixN
  rw [List.length_map, if_pos h0, if_pos h]
  show (ns.map Da.int)[k.toNat]? = _
  have : k.toNat < ns.length := by omega
  rw [List.getElem?_map, List.getElem?_eq_getElem this, List.getD_eq_getElem?_getD, List.getElem?_eq_getElem this]
  rfl
set_option maxHeartbeats 1000000 in
theorem ok_law_cell (T : Txt K mg) : Fn P w K mg base 1 "_law_cell" spCell := by
  obtain ⟨fd, F⟩ := T.says.def_ i_law_cell (d := d_law_cell) rfl
  refine fn_ok F (T.glo "_law_cell" (by kernel_rfl)) (F.bindsN fun _ _ _ _ _ _ us hl => match us, hl with | [_, _], _ => rfl) sc_law_cell (mono_cell) ?_
  rintro ds Θ Post ⟨ns, k, rfl, h0, h1, h⟩
  refine ⟨rfl, ?_⟩
  show ex _ _ [some (.wls (ns.map .int)), some (.int k)] _ _
  walk_at "zz"
  refine ⟨_, seqWl, ?_⟩
  rw [List.length_map]
  walk_at "zz"
  refine br_dec (fun e => ?_) (fun e => ?_)
  · walk_at "zz"
    refine ⟨_, _, _, seqWl, rfl, at_ints h0 e, ?_⟩
    exact fin (h _)
  · walk_at "zz"
    refine ⟨mulB (m := 30) (n := 20) (by unfold Bd; decide) (by unfold Bd; omega), ?_⟩
    walk_at "zz"
    exact fin (h _)
/-- the purse -/
def PurO (o : Ob) (n : Nat) : Prop := ∃ a b c : Int, o = .lst [.int a, .int b, .int c] ∧ 0 ≤ b ∧ b < 2 ^ 31 ∧ 0 ≤ c ∧ c ≤ n
abbrev spPurse : SpD := fun ds Θ Post => ∃ i : Int, ds = [.int i] ∧ ∀ q o, Θ q = none → PurO o 0 → Post (.obj q) (updS Θ q o)
theorem mono_purse : Mono spPurse := fun _ _ _ _ q ⟨i, e, p⟩ => ⟨i, e, fun z o h1 h2 => q _ _ (p z o h1 h2)⟩
set_option maxHeartbeats 1000000 in
theorem ok_law_purse (T : Txt K mg) : Fn P w K mg base 1 "_law_purse" spPurse := by
  obtain ⟨fd, F⟩ := T.says.def_ i_law_purse (d := d_law_purse) rfl
  refine fn_ok F (T.glo "_law_purse" (by kernel_rfl)) (F.bindsN fun _ _ _ _ _ _ us hl => match us, hl with | [_], _ => rfl) sc_law_purse (mono_purse) ?_
  rintro ds Θ Post ⟨i, rfl, h⟩
  refine ⟨rfl, ?_⟩
  show ex _ _ [some (.int i)] _ _
  walk_at "z"
  refine ex1_ret (ev_lstM ?_)
  walk_at "zz"
  refine ⟨⟨by decide, by decide, by decide⟩, ?_⟩
  walk_at "zz"
  refine ⟨by decide, ?_⟩
  walk_at "zz"
  intro q hq
  refine fin (h q _ hq ⟨_, _, _, rfl, Int.emod_nonneg _ (by decide), Int.lt_trans (Int.emod_lt_of_pos _ (by decide)) (by decide), Int.le_refl _, by decide⟩)
/-- a draw: any number below many -/
abbrev spTake : SpD := fun ds Θ Post => ∃ (p : Addr) (o : Ob) (n : Nat) (many : Int), ds = [.obj p, .int many] ∧ Θ p = some o ∧ PurO o n ∧ n ≤ 1000 ∧ 0 < many ∧ many ≤ 2 ^ 60 ∧ ∀ (d : Int) (o' : Ob), 0 ≤ d → d < many → PurO o' (n + 1) → Post (.int d) (updS Θ p o')
theorem mono_take : Mono spTake := fun _ _ _ _ q ⟨p, o, n, m, e, h1, h2, h3, h4, h5, h⟩ => ⟨p, o, n, m, e, h1, h2, h3, h4, h5, fun d o' a b c => q _ _ (h d o' a b c)⟩
set_option maxHeartbeats 1000000 in
theorem ok_law_take (T : Txt K mg) : Fn P w K mg base 1 "_law_take" spTake := by
  obtain ⟨fd, F⟩ := T.says.def_ i_law_take (d := d_law_take) rfl
  refine fn_ok F (T.glo "_law_take" (by kernel_rfl)) (F.bindsN fun _ _ _ _ _ _ us hl => match us, hl with | [_, _], _ => rfl) sc_law_take (mono_take) ?_
  rintro ds Θ Post ⟨p, o, n, many, rfl, hp, ⟨a, b, c, rfl, b0, b1, c0, c1⟩, hn, m0, m1, h⟩
  refine ⟨rfl, ?_⟩
  show ex _ _ [some (.obj p), some (.int many), none, none, none] _ _
  walk_at "zz"
  have md : CDivZ 0 many := ⟨by omega, by
    have : many.natAbs.log2 < 61 := (Nat.log2_lt (by omega)).mpr (by omega)
    omega⟩
  refine br_dec (fun e => ?_) (fun e => ?_)
  · walk_at "zz"
    refine ⟨m0, ?_⟩
    walk_at "zz"
    refine ⟨md, ?_⟩
    walk_at "zz"
    dsimp only [List.set]
    exact fin (h _ _ (Int.emod_nonneg _ (by omega)) (Int.emod_lt_of_pos _ m0) ⟨_, _, _, rfl, b0, b1, c0, by omega⟩)
  · have hp2 : updS Θ p (Ob.lst ([Da.int a, Da.int b, Da.int c].set (Int.toNat 2) (Da.int (c + 1)))) p = some (.lst [.int a, .int b, .int (c + 1)]) := updS_same
    have q1 : Bd 30 7919 := by unfold Bd; decide
    have q2 : Bd 30 (c + 1) := by unfold Bd; omega
    walk_at "zz"
    refine ⟨⟨by decide, by decide, by omega⟩, ?_⟩
    walk_at "zz"
    refine ⟨by decide, ?_⟩
    walk_at "zz"
    refine ⟨⟨by decide, by decide⟩, ?_⟩
    generalize hx : ((b + 7919 * (c + 1) + 107) ^ Int.toNat 5 % 2147483647) = x
    have x0 : 0 ≤ x := by rw [← hx]; exact Int.emod_nonneg _ (by decide)
    have x1 : x < 2147483647 := by rw [← hx]; exact Int.emod_lt_of_pos _ (by decide)
    have q3 : Bd 30 104729 := by unfold Bd; decide
    have q4 : Bd 60 (104729 * (c + 1)) := bd_mul q3 q2
    walk_at "zz"
    have y0 : 0 ≤ x.fdiv 8 := Int.fdiv_nonneg x0 (by decide)
    have y1 : x.fdiv 8 ≤ x := by rw [Int.fdiv_eq_ediv_of_nonneg _ (by decide)]; omega
    have z1 : 104729 * (c + 1) * (c + 1) < 2 ^ 40 := by
      have h1 : 104729 * (c + 1) * (c + 1) ≤ 104729 * 1001 * 1001 := Int.mul_le_mul (by omega) (by omega) (by omega) (by decide)
      omega
    have z0 : 0 ≤ 104729 * (c + 1) * (c + 1) := Int.mul_nonneg (by omega) (by omega)
    refine ⟨⟨by decide, by decide, by omega⟩, ?_⟩
    walk_at "zz"
    refine ⟨by decide, ?_⟩
    walk_at "zz"
    generalize hy : ((x.fdiv 8 + 104729 * (c + 1) * (c + 1) + 3) ^ Int.toNat 3 % 2147483587) = y
    have v0 : 0 ≤ y := by rw [← hy]; exact Int.emod_nonneg _ (by decide)
    have v1 : y < 2147483587 := by rw [← hy]; exact Int.emod_lt_of_pos _ (by decide)
    have q5 : Bd 30 536870909 := by unfold Bd; decide
    have q6 : Bd 40 (y.fdiv 4) := by
      unfold Bd
      rw [Int.fdiv_eq_ediv_of_nonneg _ (by decide)]
      omega
    refine ⟨⟨by decide, by decide⟩, ?_⟩
    walk_at "zz"
    refine ⟨⟨by decide, by decide⟩, ?_⟩
    walk_at "zz"
    refine ⟨m0, ?_⟩
    walk_at "zz"
    exact fin (h _ _ (Int.emod_nonneg _ (by omega)) (Int.emod_lt_of_pos _ m0) ⟨_, _, _, rfl, b0, b1, by omega, by omega⟩)
end
/-! ## K95N -/
section
variable {P : Program} {w : World} {K : Frag} {mg : Str → Option Value} {base : Heap}
def FormOk (m : Nat) (f : List Int) : Prop := f.length = m ∧ ∀ x, x ∈ f → -(10 ^ 12) ≤ x ∧ x ≤ 10 ^ 12
abbrev spForm : SpD := fun ds Θ Post => ∃ (p : Addr) (o : Ob) (n m : Nat), ds = [.obj p, .int m] ∧ Θ p = some o ∧ PurO o n ∧ n ≤ 900 ∧ (m = 2 ∨ m = 4) ∧ ∀ (f : List Int) (o' : Ob), FormOk m f → PurO o' (n + 5) → Post (formD f) (updS Θ p o')
theorem mono_form : Mono spForm := fun _ _ _ _ q ⟨p, o, n, m, e, h1, h2, h3, h4, h⟩ => ⟨p, o, n, m, e, h1, h2, h3, h4, fun d o' a b => q _ _ (h d o' a b)⟩
theorem wide_at {d : Int} (h0 : 0 ≤ d) (h1 : d < 4) : ∃ w : Int, atI [Da.int 1, Da.int 2, Da.int 5, Da.int (10 ^ Int.toNat 12)] d = some (.int w) ∧ 1 ≤ w ∧ w ≤ 10 ^ 12 := by
  have : d = 0 ∨ d = 1 ∨ d = 2 ∨ d = 3 := by omega
  rcases this with rfl | rfl | rfl | rfl
  · exact ⟨1, rfl, by decide, by decide⟩
  · exact ⟨2, rfl, by decide, by decide⟩
  · exact ⟨5, rfl, by decide, by decide⟩
  · exact ⟨10 ^ Int.toNat 12, rfl, by decide, by decide⟩
theorem rg2 : rngD 0 (2 : Int).toNat = [.int 0, .int 1] := by kernel_rfl
theorem rg4 : rngD 0 (4 : Int).toNat = [.int 0, .int 1, .int 2, .int 3] := by kernel_rfl
theorem PurO.le {o : Ob} {m n : Nat} (h : PurO o m) (e : m ≤ n) : PurO o n := by
  obtain ⟨a, b, c, h1, h2, h3, h4, h5⟩ := h
  exact ⟨a, b, c, h1, h2, h3, h4, by omega⟩
set_option maxHeartbeats 2000000 in
theorem ok_law_form (T : Txt K mg) : Fn P w K mg base 2 "_law_form" spForm := by
  have F1 : Fn P w K mg base 1 "_law_take" spTake := ok_law_take T
  obtain ⟨fd, F⟩ := T.says.def_ i_law_form (d := d_law_form) rfl
  refine fn_ok F (T.glo "_law_form" (by kernel_rfl)) (F.bindsN fun _ _ _ _ _ _ us hl => match us, hl with | [_, _], _ => rfl) sc_law_form (mono_form) ?_
  rintro ds Θ Post ⟨p, o, n, m, rfl, hp, ho, hn, hm, h⟩
  refine ⟨rfl, ?_⟩
  rcases hm with rfl | rfl
  · show ex _ _ [some (.obj p), some (.int 2), none, none] _ _
    walk_at "zz"
    refine ⟨⟨by decide, by decide, by decide⟩, ?_⟩
    walk_at "zz"
    refine ⟨p, o, n, 4, rfl, hp, ho, by omega, by decide, by decide, fun d1 o1 d10 d11 ho1 => ?_⟩
    obtain ⟨wd, hw, hw1, hw2⟩ := wide_at d10 d11
    refine ⟨_, _, _, seqL, rfl, hw, ?_⟩
    walk_at "zz"
    walk_at "zlc"
    refine ei_range1 (by walk_at "zb") ?_
    walk_at "zz"
    rw [rg2]
    have hp1 : updS Θ p o1 p = some o1 := updS_same
    walk_at "zz"
    refine ⟨mulB (m := 3) (n := 50) (by unfold Bd; decide) (by unfold Bd; omega), ?_⟩
    walk_at "zz"
    refine ⟨p, o1, n + 1, 2 * wd + 1, rfl, hp1, ho1, by omega, by omega, by omega, fun d2 o2 d20 d21 ho2 => ?_⟩
    rw [updS_updS]
    have hp2 : updS Θ p o2 p = some o2 := updS_same
    walk_at "zz"
    refine ⟨mulB (m := 3) (n := 50) (by unfold Bd; decide) (by unfold Bd; omega), ?_⟩
    walk_at "zz"
    refine ⟨p, o2, n + 1 + 1, 2 * wd + 1, rfl, hp2, ho2, by omega, by omega, by omega, fun d3 o3 d30 d31 ho3 => ?_⟩
    rw [updS_updS]
    walk_at "zz"
    exact fin (h [d2 - wd, d3 - wd] o3 ⟨rfl, by intro x hx; simp at hx; omega⟩ (ho3.le (by omega)))
  · show ex _ _ [some (.obj p), some (.int 4), none, none] _ _
    walk_at "zz"
    refine ⟨⟨by decide, by decide, by decide⟩, ?_⟩
    walk_at "zz"
    refine ⟨p, o, n, 4, rfl, hp, ho, by omega, by decide, by decide, fun d1 o1 d10 d11 ho1 => ?_⟩
    obtain ⟨wd, hw, hw1, hw2⟩ := wide_at d10 d11
    refine ⟨_, _, _, seqL, rfl, hw, ?_⟩
    walk_at "zz"
    walk_at "zlc"
    refine ei_range1 (by walk_at "zb") ?_
    walk_at "zz"
    rw [rg4]
    have hp1 : updS Θ p o1 p = some o1 := updS_same
    walk_at "zz"
    refine ⟨mulB (m := 3) (n := 50) (by unfold Bd; decide) (by unfold Bd; omega), ?_⟩
    walk_at "zz"
    refine ⟨p, o1, n + 1, 2 * wd + 1, rfl, hp1, ho1, by omega, by omega, by omega, fun d2 o2 d20 d21 ho2 => ?_⟩
    rw [updS_updS]
    have hp2 : updS Θ p o2 p = some o2 := updS_same
    walk_at "zz"
    refine ⟨mulB (m := 3) (n := 50) (by unfold Bd; decide) (by unfold Bd; omega), ?_⟩
    walk_at "zz"
    refine ⟨p, o2, n + 1 + 1, 2 * wd + 1, rfl, hp2, ho2, by omega, by omega, by omega, fun d3 o3 d30 d31 ho3 => ?_⟩
    rw [updS_updS]
    have hp3 : updS Θ p o3 p = some o3 := updS_same
    walk_at "zz"
    refine ⟨mulB (m := 3) (n := 50) (by unfold Bd; decide) (by unfold Bd; omega), ?_⟩
    walk_at "zz"
    refine ⟨p, o3, n + 1 + 1 + 1, 2 * wd + 1, rfl, hp3, ho3, by omega, by omega, by omega, fun d4 o4 d40 d41 ho4 => ?_⟩
    rw [updS_updS]
    have hp4 : updS Θ p o4 p = some o4 := updS_same
    walk_at "zz"
    refine ⟨mulB (m := 3) (n := 50) (by unfold Bd; decide) (by unfold Bd; omega), ?_⟩
    walk_at "zz"
    refine ⟨p, o4, n + 1 + 1 + 1 + 1, 2 * wd + 1, rfl, hp4, ho4, by omega, by omega, by omega, fun d5 o5 d50 d51 ho5 => ?_⟩
    rw [updS_updS]
    walk_at "zz"
    exact fin (h [d2 - wd, d3 - wd, d4 - wd, d5 - wd] o5 ⟨rfl, by intro x hx; simp at hx; omega⟩ (ho5.le (by omega)))
end
/-! ## K95P -/
/-! ## the plain law: weighted sums of corners -/
abbrev WL := List (Int × (Int × Int))
def dA (L : WL) : Int := (L.map fun x => x.1 * x.2.1).sum
def dB (L : WL) : Int := (L.map fun x => x.1 * x.2.2).sum
def dlt (e c : Int × Int) : Int := c.1 * e.2 - e.1 * c.2
def wsum (f : Int × Int → Int) (L : WL) : Int := (L.map fun x => x.1 * f x.2).sum
theorem wsum_cons {f : Int × Int → Int} {x : Int × (Int × Int)} {L : WL} : wsum f (x :: L) = x.1 * f x.2 + wsum f L := by
  unfold wsum; rw [List.map_cons, List.sum_cons]
theorem wsum_nil {f : Int × Int → Int} : wsum f [] = 0 := rfl
theorem dA_cons {x : Int × (Int × Int)} {L : WL} : dA (x :: L) = x.1 * x.2.1 + dA L := by unfold dA; rw [List.map_cons, List.sum_cons]
theorem dB_cons {x : Int × (Int × Int)} {L : WL} : dB (x :: L) = x.1 * x.2.2 + dB L := by unfold dB; rw [List.map_cons, List.sum_cons]
theorem dot_dlt (e : Int × Int) : ∀ L : WL, dlt e (dA L, dB L) = wsum (dlt e) L
  | [] => by simp [dA, dB, dlt, wsum]
  | x :: L => by
    have ih := dot_dlt e L
    rw [wsum_cons, ← ih, dA_cons, dB_cons]
    unfold dlt
    grind
theorem wsum_mul (s : Int) {f : Int × Int → Int} : ∀ L : WL, wsum (fun c => s * f c) L = s * wsum f L
  | [] => by simp [wsum]
  | x :: L => by
    rw [wsum_cons, wsum_cons, wsum_mul s L]
    grind
theorem dB_wsum (L : WL) : dB L = wsum (·.2) L := rfl
theorem wsum_nonneg {f : Int × Int → Int} : ∀ {L : WL}, (∀ x, x ∈ L → 0 ≤ x.1 ∧ 0 ≤ f x.2) → 0 ≤ wsum f L
  | [], _ => by simp [wsum]
  | x :: L, h => by
    rw [wsum_cons]
    have h1 := h x (List.mem_cons_self ..)
    have h2 := wsum_nonneg (f := f) (L := L) fun y hy => h y (List.mem_cons_of_mem _ hy)
    have := Int.mul_nonneg h1.1 h1.2
    omega
theorem wsum_zero {f : Int × Int → Int} : ∀ {L : WL}, (∀ x, x ∈ L → 0 ≤ x.1 ∧ 0 ≤ f x.2) → (wsum f L = 0 ↔ ∀ x, x ∈ L → x.1 = 0 ∨ f x.2 = 0)
  | [], _ => by simp [wsum]
  | x :: L, h => by
    rw [wsum_cons]
    have h1 := h x (List.mem_cons_self ..)
    have h2 := wsum_nonneg (f := f) (L := L) fun y hy => h y (List.mem_cons_of_mem _ hy)
    have ih := wsum_zero (f := f) (L := L) fun y hy => h y (List.mem_cons_of_mem _ hy)
    have h3 := Int.mul_nonneg h1.1 h1.2
    constructor
    · intro e
      have e1 : x.1 * f x.2 = 0 := by omega
      have e2 : wsum f L = 0 := by omega
      intro y hy
      rcases List.mem_cons.mp hy with rfl | hy
      · exact Int.mul_eq_zero.mp e1
      · exact ih.mp e2 y hy
    · intro g
      have e1 : x.1 * f x.2 = 0 := Int.mul_eq_zero.mpr (g x (List.mem_cons_self ..))
      have e2 := ih.mpr fun y hy => g y (List.mem_cons_of_mem _ hy)
      omega
/-- the corners: nought over nought, or a bottom of the one sign -/
structure Sgn (sg : Int) (Cs : List (Int × Int)) : Prop where
  one : sg = 1 ∨ sg = -1
  all : ∀ c, c ∈ Cs → c = (0, 0) ∨ 0 < sg * c.2
/-- the values at the corners that have a weight -/
def faceW (L : WL) : List (Int × Int) := L.filterMap fun x => if x.1 = 0 then none else valP x.2
def Wok (Cs : List (Int × Int)) (L : WL) : Prop := ∀ x, x ∈ L → 0 ≤ x.1 ∧ x.2 ∈ Cs
theorem made_low {a b : Int} (h : b ≠ 0) : Low (madeP a b) := by
  obtain ⟨g, x, y, _, _, _, e, h1, h2⟩ := made_ex (a := a) h
  rw [e]; exact ⟨h1, h2⟩
theorem val_zero : valP (0, 0) = none := by unfold valP; rw [if_pos rfl]
section
variable {sg : Int} {Cs : List (Int × Int)} {L : WL} {e : Int × Int}
theorem Sgn.ne (S : Sgn sg Cs) {c : Int × Int} (hc : 0 < sg * c.2) : c.2 ≠ 0 := fun z => by rw [z] at hc; omega
theorem face_nil (S : Sgn sg Cs) (h : Wok Cs L) : faceW L = [] ↔ ∀ x, x ∈ L → x.1 = 0 ∨ sg * x.2.2 = 0 := by
  unfold faceW
  rw [List.filterMap_eq_nil_iff]
  refine ⟨fun g x hx => ?_, fun g x hx => ?_⟩
  · have := g x hx
    by_cases z : x.1 = 0
    · exact .inl z
    · rw [if_neg z] at this
      rcases S.all _ (h x hx).2 with q | q
      · right; rw [q]; simp
      · unfold valP at this
        rw [if_neg (S.ne q)] at this
        cases this
  · rcases g x hx with z | z
    · rw [if_pos z]
    · by_cases y : x.1 = 0
      · rw [if_pos y]
      · rw [if_neg y]
        rcases S.all _ (h x hx).2 with q | q
        · rw [q]; exact val_zero
        · omega
theorem bottom_nonneg (S : Sgn sg Cs) (h : Wok Cs L) : ∀ x, x ∈ L → 0 ≤ x.1 ∧ 0 ≤ sg * x.2.2 := fun x hx => ⟨(h x hx).1, by
  rcases S.all _ (h x hx).2 with q | q
  · rw [q]; simp
  · omega⟩
theorem bottom_zero (S : Sgn sg Cs) (h : Wok Cs L) : faceW L = [] ↔ dB L = 0 := by
  rw [face_nil S h, ← wsum_zero (f := fun c => sg * c.2) (bottom_nonneg S h), wsum_mul, ← dB_wsum]
  rcases S.one with rfl | rfl <;> omega
theorem bottom_pos (S : Sgn sg Cs) (h : Wok Cs L) (hf : faceW L ≠ []) : 0 < sg * dB L := by
  have h1 := wsum_nonneg (f := fun c => sg * c.2) (bottom_nonneg S h)
  rw [wsum_mul, ← dB_wsum] at h1
  have h2 : dB L ≠ 0 := fun z => hf ((bottom_zero S h).mpr z)
  rcases S.one with rfl | rfl <;> omega
/-- the law's comparison -/
def cmpP (v e : Int × Int) : Int := if v.2 < 0 then -v.1 * e.2 - e.1 * -v.2 else v.1 * e.2 - e.1 * v.2
theorem cmp_sg (S : Sgn sg Cs) {v : Int × Int} (h : 0 < sg * v.2) : cmpP v e = sg * dlt e v := by
  unfold cmpP dlt
  rcases S.one with rfl | rfl
  · rw [if_neg (by omega)]; omega
  · rw [if_pos (by omega)]
    rw [Int.neg_mul, Int.mul_neg]
    omega
theorem cmp_sum (S : Sgn sg Cs) (h : Wok Cs L) (hf : faceW L ≠ []) : cmpP (dA L, dB L) e = wsum (fun c => sg * dlt e c) L := by
  rw [cmp_sg S (bottom_pos S h hf), dot_dlt, wsum_mul]
/-- the side on which a corner's number lies -/
theorem dlt_made (S : Sgn sg Cs) {c : Int × Int} (hc : 0 < sg * c.2) : ∃ g : Int, 0 < g ∧ sg * dlt e c = g * dlt e (madeP c.1 c.2) ∧ sg * c.2 = g * (madeP c.1 c.2).2 := by
  obtain ⟨g, x, y, hg, ea, eb, em, hy, _⟩ := made_ex (a := c.1) (S.ne hc)
  refine ⟨sg * g, ?_, ?_, ?_⟩
  · have e1 : sg * c.2 = (sg * g) * y := by rw [eb]; grind
    rw [e1] at hc
    exact Int.pos_of_mul_pos_right (by rw [Int.mul_comm]; exact hc) hy
  · rw [em]
    unfold dlt
    rw [ea, eb]
    grind
  · rw [em, eb]; grind
end
theorem cop_dvd {a b c : Int} (g : Int.gcd a b = 1) (h : a ∣ c * b) : a ∣ c := by
  rw [← Int.natAbs_dvd_natAbs] at h ⊢
  rw [Int.natAbs_mul] at h
  exact Nat.Coprime.dvd_of_dvd_mul_right g h
theorem low_eq {u v : Int × Int} (hu : Low u) (hv : Low v) (h : dlt u v = 0) : v = u := by
  obtain ⟨a, b⟩ := u
  obtain ⟨c, d⟩ := v
  obtain ⟨h1, h2⟩ := hu
  obtain ⟨h3, h4⟩ := hv
  have h : c * b = a * d := by unfold dlt at h; simp only at h; omega
  simp only [gcdI] at h1 h2 h3 h4
  have g1 : Int.gcd b a = 1 := by rw [Int.gcd_comm]; omega
  have g2 : Int.gcd d c = 1 := by rw [Int.gcd_comm]; omega
  have d1 : b ∣ d := cop_dvd g1 ⟨c, by rw [Int.mul_comm d a, ← h, Int.mul_comm]⟩
  have d2 : d ∣ b := cop_dvd g2 ⟨a, by rw [Int.mul_comm b c, h, Int.mul_comm]⟩
  have e : b = d := Int.dvd_antisymm (by omega) (by omega) d1 d2
  subst e
  have := Int.eq_of_mul_eq_mul_right (by omega) h
  rw [this]
def ordS (s : Int) (g v : Int × Int) : Prop := 0 ≤ -s * dlt g v
theorem ord_refl (s : Int) (g : Int × Int) : ordS s g g := by unfold ordS dlt; simp [Int.mul_comm]
theorem ord_trans {s : Int} {a b c : Int × Int} (hb : 0 < b.2) (ha : 0 < a.2) (hc : 0 < c.2) (h1 : ordS s a b) (h2 : ordS s b c) : ordS s a c := by
  unfold ordS at *
  have e : b.2 * (-s * dlt a c) = c.2 * (-s * dlt a b) + a.2 * (-s * dlt b c) := by unfold dlt; grind
  have p1 := Int.mul_nonneg (Int.le_of_lt hc) h1
  have p2 := Int.mul_nonneg (Int.le_of_lt ha) h2
  exact Int.nonneg_of_mul_nonneg_right (show 0 ≤ b.2 * (-s * dlt a c) by omega) hb
theorem step_ord {s : Int} (hs : s = 1 ∨ s = -1) {f v : Int × Int} : (outStep s f v = v ∧ ordS s v f) ∨ (outStep s f v = f ∧ ordS s f v) := by
  unfold outStep
  by_cases h : sgnP v f = s
  · rw [if_pos h]
    refine .inl ⟨rfl, ?_⟩
    unfold sgnP at h
    unfold ordS dlt
    rcases hs with rfl | rfl <;> split at h <;> split at h <;> omega
  · rw [if_neg h]
    refine .inr ⟨rfl, ?_⟩
    unfold sgnP at h
    unfold ordS dlt
    rcases hs with rfl | rfl <;> split at h <;> split at h <;> omega
theorem fold_ord {s : Int} (hs : s = 1 ∨ s = -1) : ∀ (r : List (Int × Int)) (f : Int × Int), 0 < f.2 → (∀ v, v ∈ r → 0 < v.2) → 0 < (r.foldl (outStep s) f).2 ∧ ordS s (r.foldl (outStep s) f) f ∧ ∀ v, v ∈ r → ordS s (r.foldl (outStep s) f) v
  | [], f, hf, _ => ⟨hf, ord_refl _ _, fun v hv => nomatch hv⟩
  | v :: r, f, hf, h => by
    rw [List.foldl_cons]
    have hv := h v (List.mem_cons_self ..)
    have hr := fun u hu => h u (List.mem_cons_of_mem _ hu)
    rcases step_ord hs (f := f) (v := v) with ⟨e, o⟩ | ⟨e, o⟩
    · rw [e]
      obtain ⟨a, b, c⟩ := fold_ord hs r v hv hr
      refine ⟨a, ord_trans hv a hf b o, fun u hu => ?_⟩
      rcases List.mem_cons.mp hu with rfl | hu
      · exact b
      · exact c u hu
    · rw [e]
      obtain ⟨a, b, c⟩ := fold_ord hs r f hf hr
      refine ⟨a, b, fun u hu => ?_⟩
      rcases List.mem_cons.mp hu with rfl | hu
      · exact ord_trans hf a hv b o
      · exact c u hu
theorem outer_all {s : Int} (hs : s = 1 ∨ s = -1) {l : List (Int × Int)} (h0 : l ≠ []) (h : ∀ v, v ∈ l → Low v) : outerP s l ∈ l ∧ ∀ v, v ∈ l → ordS s (outerP s l) v := by
  cases l with
  | nil => exact absurd rfl h0
  | cons v r =>
    refine ⟨outer_mem (List.mem_cons_self ..) fun u hu => hu, ?_⟩
    obtain ⟨_, _, c⟩ := fold_ord hs (v :: r) v (h v (List.mem_cons_self ..)).1 fun u hu => (h u hu).1
    exact c
section
variable {sg s : Int} {Cs : List (Int × Int)} {L : WL} {e : Int × Int}
/-- e is the outermost one by s -/
structure Out (s : Int) (Cs : List (Int × Int)) (e : Int × Int) : Prop where
  one : s = 1 ∨ s = -1
  low : Low e
  at_ : ∃ c, c ∈ Cs ∧ c.2 ≠ 0 ∧ madeP c.1 c.2 = e
  all : ∀ c, c ∈ Cs → c.2 ≠ 0 → ordS s e (madeP c.1 c.2)
theorem term_ok (S : Sgn sg Cs) (O : Out s Cs e) {c : Int × Int} (hc : c ∈ Cs) : 0 ≤ -s * (sg * dlt e c) ∧ (-s * (sg * dlt e c) = 0 ↔ ∀ u, valP c = some u → u = e) := by
  rcases S.all c hc with q | q
  · subst q
    have : dlt e (0, 0) = 0 := by unfold dlt; simp
    rw [this]
    refine ⟨by simp, fun _ u hu => ?_, fun _ => by simp⟩
    rw [val_zero] at hu
    cases hu
  · obtain ⟨g, hg, e1, _⟩ := dlt_made (e := e) S q
    have ho := O.all c hc (S.ne q)
    unfold ordS at ho
    have e2 : -s * (sg * dlt e c) = g * (-s * dlt e (madeP c.1 c.2)) := by rw [e1]; grind
    rw [e2]
    refine ⟨Int.mul_nonneg (Int.le_of_lt hg) ho, fun z u hu => ?_, fun z => ?_⟩
    · unfold valP at hu
      rw [if_neg (S.ne q)] at hu
      cases hu
      have z2 : -s * dlt e (madeP c.1 c.2) = 0 := (Int.mul_eq_zero.mp z).resolve_left (by omega)
      have z3 : dlt e (madeP c.1 c.2) = 0 := (Int.mul_eq_zero.mp z2).resolve_left (by rcases O.one with h | h <;> omega)
      exact low_eq O.low (made_low (S.ne q)) z3
    · have := z (madeP c.1 c.2) (by unfold valP; rw [if_neg (S.ne q)])
      rw [this]
      have : dlt e e = 0 := by unfold dlt; rw [Int.mul_comm]; omega
      rw [this]; simp
theorem face_all (L : WL) (e : Int × Int) : (faceW L).all (fun u => decide (u = e)) = true ↔ ∀ x, x ∈ L → x.1 = 0 ∨ ∀ u, valP x.2 = some u → u = e := by
  unfold faceW
  rw [List.all_eq_true]
  constructor
  · intro h x hx
    by_cases z : x.1 = 0
    · exact .inl z
    · refine .inr fun u hu => ?_
      exact of_decide_eq_true (h u (List.mem_filterMap.mpr ⟨x, hx, by rw [if_neg z]; exact hu⟩))
  · intro h u hu
    obtain ⟨x, hx, e1⟩ := List.mem_filterMap.mp hu
    by_cases z : x.1 = 0
    · rw [if_pos z] at e1; cases e1
    · rw [if_neg z] at e1
      exact decide_eq_true ((h x hx).resolve_left z u e1)
theorem cmp_ord (S : Sgn sg Cs) (O : Out s Cs e) (h : Wok Cs L) (hf : faceW L ≠ []) : 0 ≤ -s * cmpP (dA L, dB L) e ∧ (cmpP (dA L, dB L) e = 0 ↔ (faceW L).all (fun u => decide (u = e)) = true) := by
  have k : ∀ x, x ∈ L → 0 ≤ x.1 ∧ 0 ≤ (fun c => -s * (sg * dlt e c)) x.2 := fun x hx => ⟨(h x hx).1, (term_ok S O (h x hx).2).1⟩
  have e1 : -s * cmpP (dA L, dB L) e = wsum (fun c => -s * (sg * dlt e c)) L := by rw [cmp_sum S h hf]; exact (wsum_mul (-s) (f := fun c => sg * dlt e c) L).symm
  refine ⟨by rw [e1]; exact wsum_nonneg k, ?_⟩
  rw [face_all]
  have e2 : cmpP (dA L, dB L) e = 0 ↔ -s * cmpP (dA L, dB L) e = 0 := by rcases O.one with rfl | rfl <;> omega
  rw [e2, e1, wsum_zero k]
  constructor
  · intro g x hx
    exact (g x hx).imp id (term_ok S O (h x hx).2).2.mp
  · intro g x hx
    exact (g x hx).imp id (term_ok S O (h x hx).2).2.mpr
/-- corners of no great size -/
def Small (Cs : List (Int × Int)) : Prop := ∀ c, c ∈ Cs → c.1.natAbs ≤ 4 * 10 ^ 13 ∧ c.2.natAbs ≤ 4 * 10 ^ 13
theorem made_small {a b : Int} (h : b ≠ 0) : (madeP a b).1.natAbs ≤ a.natAbs ∧ (madeP a b).2.natAbs ≤ b.natAbs := by
  obtain ⟨g, x, y, hg, ea, eb, em, _⟩ := made_ex (a := a) h
  rw [em, ea, eb, Int.natAbs_mul, Int.natAbs_mul]
  have hg : 1 ≤ g.natAbs := by omega
  exact ⟨Nat.le_mul_of_pos_left _ hg, Nat.le_mul_of_pos_left _ hg⟩
theorem dlt_small (B : Small Cs) {c : Int × Int} (hc : c ∈ Cs) (he : e.1.natAbs ≤ 4 * 10 ^ 13 ∧ e.2.natAbs ≤ 4 * 10 ^ 13) : (dlt e c).natAbs ≤ 10 ^ 28 := by
  unfold dlt
  have h1 := Nat.mul_le_mul (B c hc).1 he.2
  have h2 := Nat.mul_le_mul he.1 (B c hc).2
  rw [← Int.natAbs_mul] at h1 h2
  have h3 := Int.natAbs_sub_le (c.1 * e.2) (e.1 * c.2)
  omega
theorem wsum_small {f : Int × Int → Int} {W : Int} {N K : Nat} : ∀ {L : WL}, (∀ x, x ∈ L → 0 ≤ x.1 ∧ x.1 * N ≤ W ∧ (f x.2).natAbs ≤ K) → (wsum f L).natAbs * N ≤ L.length * (W.natAbs * K)
  | [], _ => by simp [wsum]
  | x :: L, h => by
    rw [wsum_cons, List.length_cons, Nat.succ_mul]
    obtain ⟨h0, h1, h2⟩ := h x (List.mem_cons_self ..)
    have ih := wsum_small (f := f) (W := W) (L := L) fun y hy => h y (List.mem_cons_of_mem _ hy)
    have h3 := Nat.mul_le_mul_right N (Int.natAbs_add_le (x.1 * f x.2) (wsum f L))
    have h4 : x.1.natAbs * N ≤ W.natAbs := by
      have : ((x.1.natAbs * N : Nat) : Int) = x.1 * N := by rw [Int.natCast_mul, Int.natAbs_of_nonneg h0]
      omega
    have h5 := Nat.mul_le_mul h4 h2
    have h6 : (x.1 * f x.2).natAbs * N = x.1.natAbs * N * (f x.2).natAbs := by rw [Int.natAbs_mul]; exact Nat.mul_right_comm ..
    rw [Nat.add_mul, h6] at h3
    omega
theorem wsum_append {f : Int × Int → Int} : ∀ {L M : WL}, wsum f (L ++ M) = wsum f L + wsum f M
  | [], M => by simp [wsum]
  | x :: L, M => by rw [List.cons_append, wsum_cons, wsum_cons, wsum_append]; omega
def absI (i : Int) : Int := if i < 0 then -i else i
theorem absI_eq (i : Int) : absI i = (i.natAbs : Int) := by unfold absI; split <;> omega
/-- a point at which one corner has nearly all the weight -/
structure FarAt (c : Int × Int) (L : WL) : Prop where
  ex : ∃ L1 L2 W, L = L1 ++ (W, c) :: L2 ∧ 1 ≤ W ∧ L1.length + L2.length ≤ 3 ∧ (∀ x, x ∈ L1 → x.1 * 10 ^ 60 ≤ W) ∧ ∀ x, x ∈ L2 → x.1 * 10 ^ 60 ≤ W
theorem near_ok (S : Sgn sg Cs) (O : Out s Cs e) (B : Small Cs) (h : Wok Cs L) (hf : faceW L ≠ []) {c : Int × Int} (hc : c ∈ Cs) (h0 : c.2 ≠ 0) (he : madeP c.1 c.2 = e) (F : FarAt c L) :
    absI (cmpP (dA L, dB L) e) * 10 ^ 30 ≤ absI (dB L) * e.2 := by
  obtain ⟨L1, L2, W, rfl, hW, hl, f1, f2⟩ := F.ex
  have es : e.1.natAbs ≤ 4 * 10 ^ 13 ∧ e.2.natAbs ≤ 4 * 10 ^ 13 := by
    rw [← he]
    have := made_small (a := c.1) h0
    have := B c hc
    omega
  have he2 : 0 < e.2 := O.low.1
  have hsg : 0 < sg * c.2 := by
    rcases S.all c hc with q | q
    · rw [q] at h0; exact absurd rfl h0
    · exact q
  have z : dlt e c = 0 := by
    obtain ⟨g, hg, e1, _⟩ := dlt_made (e := e) S hsg
    rw [he] at e1
    have : dlt e e = 0 := by unfold dlt; rw [Int.mul_comm]; omega
    rw [this] at e1
    rcases S.one with rfl | rfl <;> omega
  have k1 : cmpP (dA (L1 ++ (W, c) :: L2), dB (L1 ++ (W, c) :: L2)) e = sg * (wsum (dlt e) (L1 ++ L2)) := by
    rw [cmp_sum S h hf, wsum_mul, wsum_append, wsum_cons, wsum_append]
    simp only [z, Int.mul_zero, Int.zero_add]
  have k2 : (wsum (dlt e) (L1 ++ L2)).natAbs * 10 ^ 60 ≤ (L1 ++ L2).length * (W.natAbs * 10 ^ 28) := wsum_small fun x hx => by
    rcases List.mem_append.mp hx with hx | hx
    · exact ⟨(h x (List.mem_append_left _ hx)).1, f1 x hx, dlt_small B (h x (List.mem_append_left _ hx)).2 es⟩
    · exact ⟨(h x (List.mem_append_right _ (List.mem_cons_of_mem _ hx))).1, f2 x hx, dlt_small B (h x (List.mem_append_right _ (List.mem_cons_of_mem _ hx))).2 es⟩
  have k3 : (L1 ++ L2).length * (W.natAbs * 10 ^ 28) ≤ 3 * (W.natAbs * 10 ^ 28) := Nat.mul_le_mul_right _ (by rw [List.length_append]; exact hl)
  have k4 : W ≤ sg * dB (L1 ++ (W, c) :: L2) := by
    have b := bottom_nonneg S h
    have n1 := wsum_nonneg (f := fun c => sg * c.2) (L := L1) fun x hx => b x (List.mem_append_left _ hx)
    have n2 := wsum_nonneg (f := fun c => sg * c.2) (L := L2) fun x hx => b x (List.mem_append_right _ (List.mem_cons_of_mem _ hx))
    have e1 : sg * dB (L1 ++ (W, c) :: L2) = wsum (fun c => sg * c.2) L1 + (W * (sg * c.2) + wsum (fun c => sg * c.2) L2) := by
      rw [dB_wsum, ← wsum_mul, wsum_append, wsum_cons]
    have e2 : W * 1 ≤ W * (sg * c.2) := Int.mul_le_mul_of_nonneg_left (by omega) (by omega)
    omega
  rw [k1]
  have k5 : absI (sg * wsum (dlt e) (L1 ++ L2)) = absI (wsum (dlt e) (L1 ++ L2)) := by
    rw [absI_eq, absI_eq]
    rcases S.one with rfl | rfl <;> omega
  have k6 : W ≤ absI (dB (L1 ++ (W, c) :: L2)) := by
    rw [absI_eq]
    rcases S.one with rfl | rfl <;> omega
  have k7 : absI (dB (L1 ++ (W, c) :: L2)) * 1 ≤ absI (dB (L1 ++ (W, c) :: L2)) * e.2 := Int.mul_le_mul_of_nonneg_left (by omega) (by omega)
  rw [k5, absI_eq]
  omega
end
def pointP (r : Rw) (w : List Int) : Int × Int := (((w.zip r).map fun x => x.1 * x.2.p).sum, ((w.zip r).map fun x => x.1 * x.2.q).sum)
def atP : List Int → List (Int × Int) → Int
  | [a, b], [v] => a * v.1 + b * v.2
  | [a, b, c, e], [v, u] => a * v.1 * u.1 + b * v.1 * u.2 + c * v.2 * u.1 + e * v.2 * u.2
  | _, _ => 0
def ptsP : List Rw → List (List Int) → List (Int × Int)
  | [r], [w] => [pointP r w]
  | [r, t], [w, v] => [pointP r w, pointP t v]
  | _, _ => []
def cmbP : List (List (List Int)) → List (List (List Int))
  | [W] => W.map fun w => [w]
  | [W, V] => W.flatMap fun w => V.map fun v => [w, v]
  | _ => []
def wlP (top bottom : List Int) : List Rw → List (List Int) → WL
  | [r], [w] => (w.zip r).map fun x => (x.1, (formP top [x.2], formP bottom [x.2]))
  | [r, t], [w, v] => (w.zip r).flatMap fun x => (v.zip t).map fun y => (x.1 * y.1, (formP top [x.2, y.2], formP bottom [x.2, y.2]))
  | _, _ => []
def suppP : Rw → List (List Int)
  | [s] => if s.b then [[1]] else []
  | [s, t] => (if s.b then [[1, 0]] else []) ++ ((if t.b then [[0, 1]] else []) ++ [[1, 1]])
  | _ => []
def farI : Int := 10 ^ 60
def weightsP (r : Rw) (x y : Int) : List (List Int) := ([[1, 1], [1, farI], [farI, 1], [1 + x, 1 + y]].map fun w => w.take r.length) ++ suppP r
inductive RowK : Rw → Prop
  | one (p q : Int) : RowK [⟨p, q, true⟩]
  | two (s t : Sd) : RowK [s, t]
inductive FormK : Nat → List Int → Prop
  | two (a b : Int) : FormK 2 [a, b]
  | four (a b c e : Int) : FormK 4 [a, b, c, e]
theorem faces_held {n : Nat} {ss : List Rw} (h : Shape n ss) (top bottom : List Int) : facesP (cP top bottom ss) ss = ((cmbP (ss.map suppP)).map (wlP top bottom ss)).map faceW := by
  cases h
  case a s => obtain ⟨p, q, b⟩ := s; cases b <;> rfl
  case b s t => obtain ⟨p, q, b⟩ := s; obtain ⟨p2, q2, b2⟩ := t; cases b <;> cases b2 <;> rfl
  case c s u => obtain ⟨p, q, b⟩ := s; obtain ⟨p2, q2, b2⟩ := u; cases b <;> cases b2 <;> rfl
  case d s t u => obtain ⟨p, q, b⟩ := s; obtain ⟨p2, q2, b2⟩ := t; obtain ⟨p3, q3, b3⟩ := u; cases b <;> cases b2 <;> cases b3 <;> rfl
  case e s t u => obtain ⟨p, q, b⟩ := s; obtain ⟨p2, q2, b2⟩ := t; obtain ⟨p3, q3, b3⟩ := u; cases b <;> cases b2 <;> cases b3 <;> rfl
  case f s t u v => obtain ⟨p, q, b⟩ := s; obtain ⟨p2, q2, b2⟩ := t; obtain ⟨p3, q3, b3⟩ := u; obtain ⟨p4, q4, b4⟩ := v; cases b <;> cases b2 <;> cases b3 <;> cases b4 <;> rfl
def valL (L : WL) : Int × Int := (dA L, dB L)
theorem len1 {l : List Int} (h : l.length = 1) : ∃ x, l = [x] := by
  match l, h with
  | [x], _ => exact ⟨x, rfl⟩
theorem len2 {l : List Int} (h : l.length = 2) : ∃ x y, l = [x, y] := by
  match l, h with
  | [x, y], _ => exact ⟨x, y, rfl⟩
theorem ws1 {ws : List (List Int)} {n : Nat} (h : ws.map List.length = [n]) : ∃ w, ws = [w] ∧ w.length = n := by
  match ws, h with
  | [w], h => exact ⟨w, rfl, by simpa using h⟩
theorem ws2 {ws : List (List Int)} {n m : Nat} (h : ws.map List.length = [n, m]) : ∃ w v, ws = [w, v] ∧ w.length = n ∧ v.length = m := by
  match ws, h with
  | [w, v], h => exact ⟨w, v, rfl, by simpa using h⟩
theorem pt_val {n : Nat} {ss : List Rw} {ws : List (List Int)} {top bottom : List Int} (h : Shape n ss) (ht : FormK n top) (hb : FormK n bottom) (hw : ws.map List.length = ss.map List.length) :
    (atP top (ptsP ss ws), atP bottom (ptsP ss ws)) = valL (wlP top bottom ss ws) := by
  cases h
  case a s =>
    obtain ⟨w, rfl, h1⟩ := ws1 hw
    obtain ⟨x, rfl⟩ := len1 h1
    cases ht; cases hb
    simp [valL, atP, ptsP, pointP, wlP, dA, dB, formP]
    grind
  case b s t =>
    obtain ⟨w, rfl, h1⟩ := ws1 hw
    obtain ⟨x, y, rfl⟩ := len2 h1
    cases ht; cases hb
    simp [valL, atP, ptsP, pointP, wlP, dA, dB, formP]
    grind
  case c s u =>
    obtain ⟨w, v, rfl, h1, h2⟩ := ws2 hw
    obtain ⟨x, rfl⟩ := len1 h1
    obtain ⟨x2, rfl⟩ := len1 h2
    cases ht; cases hb
    simp [valL, atP, ptsP, pointP, wlP, dA, dB, formP]
    grind
  case d s t u =>
    obtain ⟨w, v, rfl, h1, h2⟩ := ws2 hw
    obtain ⟨x, y, rfl⟩ := len2 h1
    obtain ⟨x2, rfl⟩ := len1 h2
    cases ht; cases hb
    simp [valL, atP, ptsP, pointP, wlP, dA, dB, formP]
    grind
  case e s u v =>
    obtain ⟨w, v, rfl, h1, h2⟩ := ws2 hw
    obtain ⟨x, rfl⟩ := len1 h1
    obtain ⟨x2, y2, rfl⟩ := len2 h2
    cases ht; cases hb
    simp [valL, atP, ptsP, pointP, wlP, dA, dB, formP]
    grind
  case f s t u v =>
    obtain ⟨w, v, rfl, h1, h2⟩ := ws2 hw
    obtain ⟨x, y, rfl⟩ := len2 h1
    obtain ⟨x2, y2, rfl⟩ := len2 h2
    cases ht; cases hb
    simp [valL, atP, ptsP, pointP, wlP, dA, dB, formP]
    grind
/-- the family of points -/
structure Fam (Cs : List (Int × Int)) (V Hd : List WL) : Prop where
  v : ∀ L, L ∈ V → Wok Cs L
  hd : ∀ L, L ∈ Hd → Wok Cs L
  sup : ∀ L, L ∈ V → ∃ L', L' ∈ Hd ∧ faceW L' = faceW L
  far : ∀ c, c ∈ Cs → ∃ L, L ∈ V ∧ FarAt c L
theorem cmb_mem {Ws : List (List (List Int))} {ws : List (List Int)} : ws ∈ cmbP Ws → (∃ W w, Ws = [W] ∧ ws = [w] ∧ w ∈ W) ∨ ∃ W V w v, Ws = [W, V] ∧ ws = [w, v] ∧ w ∈ W ∧ v ∈ V := by
  intro h
  unfold cmbP at h
  split at h
  · obtain ⟨w, hw, rfl⟩ := List.mem_map.mp h
    exact .inl ⟨_, w, rfl, rfl, hw⟩
  · obtain ⟨w, hw, h⟩ := List.mem_flatMap.mp h
    obtain ⟨v, hv, rfl⟩ := List.mem_map.mp h
    exact .inr ⟨_, _, w, v, rfl, rfl, hw, hv⟩
  · cases h
theorem cmb_one {W : List (List Int)} {w : List Int} (h : w ∈ W) : [w] ∈ cmbP [W] := List.mem_map.mpr ⟨w, h, rfl⟩
theorem cmb_two {W V : List (List Int)} {w v : List Int} (h : w ∈ W) (h2 : v ∈ V) : [w, v] ∈ cmbP [W, V] := List.mem_flatMap.mpr ⟨w, h, List.mem_map.mpr ⟨v, h2, rfl⟩⟩
/-- a row of weights for a row of sides -/
def WtOk (r : Rw) (w : List Int) : Prop := w.length = r.length ∧ ∀ x, x ∈ w → 0 ≤ x
theorem supp_ok (r : Rw) : ∀ w, w ∈ suppP r → WtOk r w := by
  intro w hw
  unfold suppP at hw
  split at hw
  · split at hw <;> simp at hw
    subst hw
    exact ⟨rfl, by simp⟩
  · simp only [List.mem_append] at hw
    rcases hw with hw | hw | hw
    · split at hw <;> simp at hw
      subst hw
      exact ⟨rfl, by simp⟩
    · split at hw <;> simp at hw
      subst hw
      exact ⟨rfl, by simp⟩
    · simp at hw
      subst hw
      exact ⟨rfl, by simp⟩
  · cases hw
theorem farI_pos : 1 ≤ farI := by unfold farI; decide
theorem weights_ok {r : Rw} (hr : RowK r) {x y : Int} (hx : 0 ≤ x) (hy : 0 ≤ y) : ∀ w, w ∈ weightsP r x y → WtOk r w ∧ ∃ u, u ∈ suppP r ∧ w.map (fun i => decide (i = 0)) = u.map fun i => decide (i = 0) := by
  intro w hw
  unfold weightsP at hw
  have hf := farI_pos
  rcases List.mem_append.mp hw with hw | hw
  · cases hr with
    | one p q =>
      refine ⟨?_, [1], by simp [suppP], ?_⟩
      · simp at hw
        rcases hw with rfl | rfl | rfl <;> exact ⟨rfl, by simp; try omega⟩
      · simp at hw
        rcases hw with rfl | rfl | rfl <;> simp <;> omega
    | two s t =>
      refine ⟨?_, [1, 1], by simp [suppP], ?_⟩
      · simp at hw
        rcases hw with rfl | rfl | rfl | rfl <;> exact ⟨rfl, by simp; try omega⟩
      · simp at hw
        rcases hw with rfl | rfl | rfl | rfl <;> simp <;> omega
  · exact ⟨supp_ok r w hw, w, hw, rfl⟩
def nth (r : Rw) (i : Nat) : Sd := r.getD (i % r.length) ⟨0, 0, false⟩
def cornP (ss : List Rw) (a : Nat) : List Sd := match ss with
  | [r] => [nth r a]
  | [r, t] => [nth r a, nth t (a / r.length)]
  | _ => []
/-- a row of each side's weights -/
def WsOk (ss : List Rw) (ws : List (List Int)) : Prop := (∃ r w, ss = [r] ∧ ws = [w] ∧ WtOk r w) ∨ ∃ r t w v, ss = [r, t] ∧ ws = [w, v] ∧ WtOk r w ∧ WtOk t v
theorem WsOk.len {ss : List Rw} {ws : List (List Int)} (h : WsOk ss ws) : ws.map List.length = ss.map List.length := by
  rcases h with ⟨r, w, rfl, rfl, h⟩ | ⟨r, t, w, v, rfl, rfl, h, g⟩
  · simp [h.1]
  · simp [h.1, g.1]
theorem crn1_mem : ∀ {r : Rw} {s : Sd} (n : Nat), s ∈ r → ∃ k, (k, [s]) ∈ crn1 n r
  | s :: r, u, n, h => by
    rcases List.mem_cons.mp h with rfl | h
    · exact ⟨_, List.mem_cons_self ..⟩
    · obtain ⟨k, hk⟩ := crn1_mem (n + 1) h
      exact ⟨k, List.mem_cons_of_mem _ hk⟩
theorem zip_snd {α β : Type} {x : α × β} {l : List α} {m : List β} (h : x ∈ l.zip m) : x.1 ∈ l ∧ x.2 ∈ m := ⟨(List.of_mem_zip h).1, (List.of_mem_zip h).2⟩
theorem wl_ok {top bottom : List Int} {ss : List Rw} {ws : List (List Int)} (h : WsOk ss ws) : Wok (crsP top bottom ss) (wlP top bottom ss ws) := by
  rcases h with ⟨r, w, rfl, rfl, h⟩ | ⟨r, t, w, v, rfl, rfl, h, g⟩
  · intro x hx
    obtain ⟨y, hy, rfl⟩ := List.mem_map.mp (show x ∈ (w.zip r).map _ from hx)
    obtain ⟨h1, h2⟩ := zip_snd hy
    obtain ⟨k, hk⟩ := crn1_mem 0 h2
    exact ⟨h.2 _ h1, List.mem_map.mpr ⟨_, hk, rfl⟩⟩
  · intro x hx
    obtain ⟨y, hy, hx⟩ := List.mem_flatMap.mp (show x ∈ (w.zip r).flatMap _ from hx)
    obtain ⟨z, hz, rfl⟩ := List.mem_map.mp hx
    obtain ⟨h1, h2⟩ := zip_snd hy
    obtain ⟨g1, g2⟩ := zip_snd hz
    obtain ⟨k, hk⟩ := crn1_mem 0 h2
    obtain ⟨k2, hk2⟩ := crn1_mem 0 g2
    refine ⟨Int.mul_nonneg (h.2 _ h1) (g.2 _ g1), List.mem_map.mpr ⟨(k ++ k2, [y.2] ++ [z.2]), List.mem_flatMap.mpr ⟨_, hk, List.mem_map.mpr ⟨_, hk2, rfl⟩⟩, rfl⟩⟩
theorem face_cons {x : Int × (Int × Int)} {L : WL} : faceW (x :: L) = (if x.1 = 0 then none else valP x.2).toList ++ faceW L := by
  unfold faceW
  rw [List.filterMap_cons]
  cases (if x.1 = 0 then none else valP x.2 : Option (Int × Int)) <;> rfl
theorem face_append {L M : WL} : faceW (L ++ M) = faceW L ++ faceW M := by unfold faceW; rw [List.filterMap_append]
theorem zero_iff {x y : Int} (h : decide (x = 0) = decide (y = 0)) : x = 0 ↔ y = 0 := by
  by_cases a : x = 0 <;> by_cases b : y = 0 <;> simp [a, b] at h ⊢
theorem face_zip (f : Sd → Int × Int) : ∀ {r : Rw} {w u : List Int}, w.map (fun i => decide (i = 0)) = u.map (fun i => decide (i = 0)) → faceW ((w.zip r).map fun x => (x.1, f x.2)) = faceW ((u.zip r).map fun x => (x.1, f x.2))
  | _, [], [], _ => rfl
  | _, [], _ :: _, h => by cases h
  | _, _ :: _, [], h => by cases h
  | [], _ :: _, _ :: _, _ => rfl
  | s :: r, x :: w, y :: u, h => by
    rw [List.map_cons, List.map_cons] at h
    obtain ⟨h1, h2⟩ := List.cons.inj h
    rw [List.zip_cons_cons, List.zip_cons_cons, List.map_cons, List.map_cons, face_cons, face_cons, face_zip f h2]
    have := zero_iff h1
    congr 1
    simp only [this]
theorem face_zip2 (f : Sd → Sd → Int × Int) {x y : Int} (hx : decide (x = 0) = decide (y = 0)) : ∀ {t : Rw} {v v' : List Int}, v.map (fun i => decide (i = 0)) = v'.map (fun i => decide (i = 0)) → ∀ s, faceW ((v.zip t).map fun z => (x * z.1, f s z.2)) = faceW ((v'.zip t).map fun z => (y * z.1, f s z.2))
  | _, [], [], _, _ => rfl
  | _, [], _ :: _, h, _ => by cases h
  | _, _ :: _, [], h, _ => by cases h
  | [], _ :: _, _ :: _, _, _ => rfl
  | q :: t, a :: w, b :: u, h, s => by
    rw [List.map_cons, List.map_cons] at h
    obtain ⟨h1, h2⟩ := List.cons.inj h
    rw [List.zip_cons_cons, List.zip_cons_cons, List.map_cons, List.map_cons, face_cons, face_cons, face_zip2 f hx h2 s]
    have e1 := zero_iff h1
    have e2 := zero_iff hx
    congr 1
    simp only [Int.mul_eq_zero, e1, e2]
theorem face_prod (f : Sd → Sd → Int × Int) {t : Rw} {v v' : List Int} (hv : v.map (fun i => decide (i = 0)) = v'.map (fun i => decide (i = 0))) : ∀ {r : Rw} {w w' : List Int}, w.map (fun i => decide (i = 0)) = w'.map (fun i => decide (i = 0)) →
    faceW ((w.zip r).flatMap fun x => (v.zip t).map fun z => (x.1 * z.1, f x.2 z.2)) = faceW ((w'.zip r).flatMap fun x => (v'.zip t).map fun z => (x.1 * z.1, f x.2 z.2))
  | _, [], [], _ => rfl
  | _, [], _ :: _, h => by cases h
  | _, _ :: _, [], h => by cases h
  | [], _ :: _, _ :: _, _ => rfl
  | q :: r, a :: w, b :: u, h => by
    rw [List.map_cons, List.map_cons] at h
    obtain ⟨h1, h2⟩ := List.cons.inj h
    rw [List.zip_cons_cons, List.zip_cons_cons, List.flatMap_cons, List.flatMap_cons, face_append, face_append, face_prod f hv h2, face_zip2 f h1 hv q]
/-- the draws of the weights of each side -/
def wtsP : List Rw → List (Int × Int) → List (List (List Int))
  | [r], [d] => [weightsP r d.1 d.2]
  | [r, t], [d, e] => [weightsP r d.1 d.2, weightsP t e.1 e.2]
  | _, _ => []
theorem far_in {r : Rw} (hr : RowK r) {x y : Int} : (∀ s, r = [s] → [farI] ∈ weightsP r x y) ∧ (∀ s t, r = [s, t] → [farI, 1] ∈ weightsP r x y ∧ [1, farI] ∈ weightsP r x y) := by
  refine ⟨fun s e => ?_, fun s t e => ?_⟩
  · subst e; simp [weightsP]
  · subst e; simp [weightsP]
theorem far_sq : farI * 10 ^ 60 ≤ farI * farI := by unfold farI; decide
theorem far_one : 1 * 10 ^ 60 ≤ farI := by unfold farI; decide
theorem far_one2 : 1 * 10 ^ 60 ≤ farI * farI := by unfold farI; decide
theorem far_sq1 : 1 ≤ farI * farI := by unfold farI; decide
theorem crn1_cases {r : Rw} (h : 0 < r.length ∧ r.length ≤ 2) : (∃ s, r = [s]) ∨ ∃ s t, r = [s, t] := by
  match r, h with
  | [s], _ => exact .inl ⟨s, rfl⟩
  | [s, t], _ => exact .inr ⟨s, t, rfl⟩
theorem far_ok {n : Nat} {ss : List Rw} (h : Shape n ss) (hr : ∀ r, r ∈ ss → RowK r) {top bottom : List Int} {ds : List (Int × Int)} (hd : ds.length = ss.length) :
    ∀ c, c ∈ crsP top bottom ss → ∃ L, L ∈ (cmbP (wtsP ss ds)).map (wlP top bottom ss) ∧ FarAt c L := by
  have f1 := farI_pos
  intro c hc
  cases h
  case a s =>
    match ds, hd with
    | [d], _ =>
    obtain ⟨g1, g2⟩ := far_in (hr _ (List.mem_cons_self ..)) (x := d.1) (y := d.2)
    simp [crsP, crnP, crn1] at hc
    subst hc
    exact ⟨_, List.mem_map.mpr ⟨_, cmb_one (g1 s rfl), rfl⟩, ⟨[], [], farI, rfl, f1, by simp, by simp, by simp⟩⟩
  case b s t =>
    match ds, hd with
    | [d], _ =>
    obtain ⟨g1, g2⟩ := far_in (hr _ (List.mem_cons_self ..)) (x := d.1) (y := d.2)
    simp [crsP, crnP, crn1] at hc
    rcases hc with rfl | rfl
    · exact ⟨_, List.mem_map.mpr ⟨_, cmb_one (g2 s t rfl).1, rfl⟩, ⟨[], [(1, _)], farI, rfl, f1, by simp, by simp, by simp; exact far_one⟩⟩
    · exact ⟨_, List.mem_map.mpr ⟨_, cmb_one (g2 s t rfl).2, rfl⟩, ⟨[(1, _)], [], farI, rfl, f1, by simp, by simp; exact far_one, by simp⟩⟩
  case c s u =>
    match ds, hd with
    | [d, d2], _ =>
    obtain ⟨g1, g2⟩ := far_in (hr [s] (by simp)) (x := d.1) (y := d.2)
    obtain ⟨g3, g4⟩ := far_in (hr [u] (by simp)) (x := d2.1) (y := d2.2)
    simp [crsP, crnP, crn1] at hc
    subst hc
    exact ⟨_, List.mem_map.mpr ⟨_, cmb_two (g1 s rfl) (g3 u rfl), rfl⟩, ⟨[], [], farI * farI, rfl, far_sq1, by simp, by simp, by simp⟩⟩
  case d s t u =>
    match ds, hd with
    | [d, d2], _ =>
    obtain ⟨g1, g2⟩ := far_in (hr [s, t] (by simp)) (x := d.1) (y := d.2)
    obtain ⟨g3, g4⟩ := far_in (hr [u] (by simp)) (x := d2.1) (y := d2.2)
    simp [crsP, crnP, crn1] at hc
    rcases hc with rfl | rfl
    · exact ⟨_, List.mem_map.mpr ⟨_, cmb_two (g2 s t rfl).1 (g3 u rfl), rfl⟩, ⟨[], [(1 * farI, _)], farI * farI, rfl, far_sq1, by simp, by simp, by simp; exact far_sq⟩⟩
    · exact ⟨_, List.mem_map.mpr ⟨_, cmb_two (g2 s t rfl).2 (g3 u rfl), rfl⟩, ⟨[(1 * farI, _)], [], farI * farI, rfl, far_sq1, by simp, by simp; exact far_sq, by simp⟩⟩
  case e s u v =>
    match ds, hd with
    | [d, d2], _ =>
    obtain ⟨g1, g2⟩ := far_in (hr [s] (by simp)) (x := d.1) (y := d.2)
    obtain ⟨g3, g4⟩ := far_in (hr [u, v] (by simp)) (x := d2.1) (y := d2.2)
    simp [crsP, crnP, crn1] at hc
    rcases hc with rfl | rfl
    · exact ⟨_, List.mem_map.mpr ⟨_, cmb_two (g1 s rfl) (g4 u v rfl).1, rfl⟩, ⟨[], [(farI * 1, _)], farI * farI, rfl, far_sq1, by simp, by simp, by simp; exact far_sq⟩⟩
    · exact ⟨_, List.mem_map.mpr ⟨_, cmb_two (g1 s rfl) (g4 u v rfl).2, rfl⟩, ⟨[(farI * 1, _)], [], farI * farI, rfl, far_sq1, by simp, by simp; exact far_sq, by simp⟩⟩
  case f s t u v =>
    match ds, hd with
    | [d, d2], _ =>
    obtain ⟨g1, g2⟩ := far_in (hr [s, t] (by simp)) (x := d.1) (y := d.2)
    obtain ⟨g3, g4⟩ := far_in (hr [u, v] (by simp)) (x := d2.1) (y := d2.2)
    simp [crsP, crnP, crn1] at hc
    rcases hc with rfl | rfl | rfl | rfl
    · exact ⟨_, List.mem_map.mpr ⟨_, cmb_two (g2 s t rfl).1 (g4 u v rfl).1, rfl⟩, ⟨[], [(farI * 1, _), (1 * farI, _), (1 * 1, _)], farI * farI, rfl, far_sq1, by simp, by simp, by simp; exact ⟨far_sq, far_one2⟩⟩⟩
    · exact ⟨_, List.mem_map.mpr ⟨_, cmb_two (g2 s t rfl).1 (g4 u v rfl).2, rfl⟩, ⟨[(farI * 1, _)], [(1 * 1, _), (1 * farI, _)], farI * farI, rfl, far_sq1, by simp, by simp; exact far_sq, by simp; exact ⟨far_one2, far_sq⟩⟩⟩
    · exact ⟨_, List.mem_map.mpr ⟨_, cmb_two (g2 s t rfl).2 (g4 u v rfl).1, rfl⟩, ⟨[(1 * farI, _), (1 * 1, _)], [(farI * 1, _)], farI * farI, rfl, far_sq1, by simp, by simp; exact ⟨far_sq, far_one2⟩, by simp; exact far_sq⟩⟩
    · exact ⟨_, List.mem_map.mpr ⟨_, cmb_two (g2 s t rfl).2 (g4 u v rfl).2, rfl⟩, ⟨[(1 * 1, _), (1 * farI, _), (farI * 1, _)], [], farI * farI, rfl, far_sq1, by simp, by simp; exact ⟨far_one2, far_sq⟩, by simp⟩⟩
/-- all weights of a family -/
theorem cmb_ok {n : Nat} {ss : List Rw} (h : Shape n ss) {Ws : List (List (List Int))} (hw : (∃ r W, ss = [r] ∧ Ws = [W] ∧ ∀ w, w ∈ W → WtOk r w) ∨ ∃ r t W V, ss = [r, t] ∧ Ws = [W, V] ∧ (∀ w, w ∈ W → WtOk r w) ∧ ∀ v, v ∈ V → WtOk t v) :
    ∀ ws, ws ∈ cmbP Ws → WsOk ss ws := by
  intro ws hws
  rcases hw with ⟨r, W, rfl, rfl, h1⟩ | ⟨r, t, W, V, rfl, rfl, h1, h2⟩
  · rcases cmb_mem hws with ⟨W', w, e, rfl, hm⟩ | ⟨_, _, _, _, e, _⟩
    · cases e; exact .inl ⟨r, w, rfl, rfl, h1 w hm⟩
    · cases e
  · rcases cmb_mem hws with ⟨W', w, e, rfl, hm⟩ | ⟨_, _, w, v, e, rfl, hm, hm2⟩
    · cases e
    · cases e; exact .inr ⟨r, t, w, v, rfl, rfl, h1 w hm, h2 v hm2⟩
theorem two_rows {n : Nat} {ss : List Rw} (h : Shape n ss) : (∃ r, ss = [r]) ∨ ∃ r t, ss = [r, t] := by
  cases h <;> first | exact .inl ⟨_, rfl⟩ | exact .inr ⟨_, _, rfl⟩
theorem supp_ws {n : Nat} {ss : List Rw} (h : Shape n ss) : ∀ ws, ws ∈ cmbP (ss.map suppP) → WsOk ss ws := by
  refine cmb_ok h ?_
  rcases two_rows h with ⟨r, rfl⟩ | ⟨r, t, rfl⟩
  · exact .inl ⟨r, _, rfl, rfl, supp_ok r⟩
  · exact .inr ⟨r, t, _, _, rfl, rfl, supp_ok r, supp_ok t⟩
def DrOk (ds : List (Int × Int)) : Prop := ∀ d, d ∈ ds → 0 ≤ d.1 ∧ 0 ≤ d.2
theorem fam_ok {n : Nat} {ss : List Rw} (h : Shape n ss) (hr : ∀ r, r ∈ ss → RowK r) {top bottom : List Int} {ds : List (Int × Int)} (hl : ds.length = ss.length) (hd : DrOk ds) :
    (∀ ws, ws ∈ cmbP (wtsP ss ds) → WsOk ss ws) ∧ Fam (crsP top bottom ss) ((cmbP (wtsP ss ds)).map (wlP top bottom ss)) ((cmbP (ss.map suppP)).map (wlP top bottom ss)) := by
  have hH : ∀ L, L ∈ (cmbP (ss.map suppP)).map (wlP top bottom ss) → Wok (crsP top bottom ss) L := fun L hL => by
    obtain ⟨ws, hws, rfl⟩ := List.mem_map.mp hL
    exact wl_ok (supp_ws h ws hws)
  have hF := far_ok h hr (top := top) (bottom := bottom) hl
  rcases two_rows h with ⟨r, rfl⟩ | ⟨r, t, rfl⟩
  · match ds, hl with
    | [d], _ =>
    obtain ⟨d1, d2⟩ := hd d (List.mem_cons_self ..)
    have k := weights_ok (hr r (List.mem_cons_self ..)) d1 d2
    have kw := cmb_ok h (Ws := wtsP [r] [d]) (.inl ⟨r, _, rfl, rfl, fun w hw => (k w hw).1⟩)
    refine ⟨kw, ⟨fun L hL => ?_, hH, fun L hL => ?_, hF⟩⟩
    · obtain ⟨ws, hws, rfl⟩ := List.mem_map.mp hL
      exact wl_ok (kw ws hws)
    · obtain ⟨ws, hws, rfl⟩ := List.mem_map.mp hL
      rcases cmb_mem hws with ⟨W', w, e, rfl, hm⟩ | ⟨_, _, _, _, e, _⟩
      · cases e
        obtain ⟨u, hu, e⟩ := (k w hm).2
        exact ⟨_, List.mem_map.mpr ⟨[u], cmb_one hu, rfl⟩, (face_zip (fun s => (formP top [s], formP bottom [s])) e).symm⟩
      · cases e
  · match ds, hl with
    | [d, d'], _ =>
    obtain ⟨d1, d2⟩ := hd d (List.mem_cons_self ..)
    obtain ⟨d3, d4⟩ := hd d' (by simp)
    have k := weights_ok (hr r (List.mem_cons_self ..)) d1 d2
    have k2 := weights_ok (hr t (by simp)) d3 d4
    have kw := cmb_ok h (Ws := wtsP [r, t] [d, d']) (.inr ⟨r, t, _, _, rfl, rfl, fun w hw => (k w hw).1, fun w hw => (k2 w hw).1⟩)
    refine ⟨kw, ⟨fun L hL => ?_, hH, fun L hL => ?_, hF⟩⟩
    · obtain ⟨ws, hws, rfl⟩ := List.mem_map.mp hL
      exact wl_ok (kw ws hws)
    · obtain ⟨ws, hws, rfl⟩ := List.mem_map.mp hL
      rcases cmb_mem hws with ⟨W', w, e, _⟩ | ⟨_, _, w, v, e, rfl, hm, hm2⟩
      · cases e
      · cases e
        obtain ⟨u, hu, e⟩ := (k w hm).2
        obtain ⟨u2, hu2, e2⟩ := (k2 v hm2).2
        exact ⟨_, List.mem_map.mpr ⟨[u, u2], cmb_two hu hu2, rfl⟩, (face_prod (fun s t => (formP top [s, t], formP bottom [s, t])) e2 e).symm⟩
structure GoodE (lo : Int × Int) (li : Bool) (hi : Int × Int) (hj : Bool) (vals held : List (Int × Int)) : Prop where
  le : lo.1 * hi.2 ≤ hi.1 * lo.2
  all : ∀ v, v ∈ vals → 0 ≤ cmpP v lo ∧ cmpP v hi ≤ 0 ∧ (cmpP v lo = 0 → li = true) ∧ (cmpP v hi = 0 → hj = true)
  hl : (held.any fun v => decide (cmpP v lo = 0)) = li
  hh : (held.any fun v => decide (cmpP v hi = 0)) = hj
  nl : (vals.any fun v => decide (absI (cmpP v lo) * 10 ^ 30 ≤ absI v.2 * lo.2)) = true
  nh : (vals.any fun v => decide (absI (cmpP v hi) * 10 ^ 30 ≤ absI v.2 * hi.2)) = true
  sl : lo.1.natAbs ≤ 4 * 10 ^ 13 ∧ lo.2.natAbs ≤ 4 * 10 ^ 13
  sh : hi.1.natAbs ≤ 4 * 10 ^ 13 ∧ hi.2.natAbs ≤ 4 * 10 ^ 13
theorem sgn_of {Cs : List (Int × Int)} (h : noP (nzP Cs) = false) : (∃ sg, Sgn sg Cs) ∧ ∃ c, c ∈ Cs ∧ c.2 ≠ 0 := by
  unfold noP noI at h
  rw [Bool.or_eq_false_iff, Bool.or_eq_false_iff, List.any_eq_false] at h
  obtain ⟨h1, h2, h3⟩ := h
  have nz : ∀ c, c ∈ Cs → c = (0, 0) ∨ (c.2 ≠ 0 ∧ c.2 ∈ (nzP Cs).map (·.2)) := fun c hc => by
    by_cases q : c = (0, 0)
    · exact .inl q
    · have m : c.2 ∈ (nzP Cs).map (·.2) := List.mem_map.mpr ⟨c, List.mem_filter.mpr ⟨hc, decide_eq_true q⟩, rfl⟩
      exact .inr ⟨fun z => h1 _ m (decide_eq_true z), m⟩
  refine ⟨?_, ?_⟩
  · rw [Bool.and_eq_false_iff, List.any_eq_false, List.any_eq_false] at h3
    rcases h3 with h3 | h3
    · refine ⟨1, ⟨.inl rfl, fun c hc => ?_⟩⟩
      rcases nz c hc with q | ⟨q, m⟩
      · exact .inl q
      · have := h3 _ m
        simp at this
        exact .inr (by omega)
    · refine ⟨-1, ⟨.inr rfl, fun c hc => ?_⟩⟩
      rcases nz c hc with q | ⟨q, m⟩
      · exact .inl q
      · have := h3 _ m
        simp at this
        exact .inr (by omega)
  · cases e : nzP Cs with
    | nil => rw [e] at h2; cases h2
    | cons c l =>
      have hc : c ∈ nzP Cs := by rw [e]; exact List.mem_cons_self ..
      obtain ⟨a, b⟩ := List.mem_filter.mp hc
      rcases nz c a with q | q
      · exact absurd q (of_decide_eq_true b)
      · exact ⟨c, a, q.1⟩
theorem out_of {Cs : List (Int × Int)} {s : Int} (hs : s = 1 ∨ s = -1) (h : noP (nzP Cs) = false) : Out s Cs (outerP s ((nzP Cs).map fun c => madeP c.1 c.2)) := by
  obtain ⟨⟨sg, S⟩, c0, hc0, h0⟩ := sgn_of h
  have mem : ∀ c, c ∈ Cs → c.2 ≠ 0 → c ∈ nzP Cs := fun c hc h => List.mem_filter.mpr ⟨hc, decide_eq_true fun z => by rw [z] at h; exact h rfl⟩
  have back : ∀ c, c ∈ nzP Cs → c ∈ Cs ∧ c.2 ≠ 0 := fun c hc => by
    obtain ⟨a, b⟩ := List.mem_filter.mp hc
    rcases S.all c a with q | q
    · exact absurd q (of_decide_eq_true b)
    · exact ⟨a, S.ne q⟩
  have low : ∀ v, v ∈ (nzP Cs).map (fun c => madeP c.1 c.2) → Low v := fun v hv => by
    obtain ⟨c, hc, rfl⟩ := List.mem_map.mp hv
    exact made_low (back c hc).2
  obtain ⟨m, o⟩ := outer_all hs (l := (nzP Cs).map fun c => madeP c.1 c.2) (fun z => by
    have := List.mem_map_of_mem (f := fun c : Int × Int => madeP c.1 c.2) (mem c0 hc0 h0)
    rw [z] at this
    cases this) low
  refine ⟨hs, low _ m, ?_, fun c hc h0 => o _ (List.mem_map.mpr ⟨c, mem c hc h0, rfl⟩)⟩
  obtain ⟨c, hc, e⟩ := List.mem_map.mp m
  exact ⟨c, (back c hc).1, (back c hc).2, e⟩
theorem any_of {α : Type} {l : List α} {p : α → Bool} {x : α} (h : x ∈ l) (hp : p x = true) : l.any p = true := List.any_eq_true.mpr ⟨x, h, hp⟩
theorem good_ok {Cs : List (Int × Int)} {V Hd : List WL} (h : noP (nzP Cs) = false) (B : Small Cs) (F : Fam Cs V Hd) (ne : ∀ L, L ∈ Hd → faceW L ≠ []) :
    GoodE (outerP (-1) ((nzP Cs).map fun c => madeP c.1 c.2)) (inP (Hd.map faceW) (outerP (-1) ((nzP Cs).map fun c => madeP c.1 c.2)))
      (outerP 1 ((nzP Cs).map fun c => madeP c.1 c.2)) (inP (Hd.map faceW) (outerP 1 ((nzP Cs).map fun c => madeP c.1 c.2))) (V.map valL) (Hd.map valL) := by
  have O1 := out_of (.inr rfl : (-1 : Int) = 1 ∨ (-1 : Int) = -1) h
  have O2 := out_of (.inl rfl : (1 : Int) = 1 ∨ (1 : Int) = -1) h
  obtain ⟨⟨sg, S⟩, _⟩ := sgn_of h
  generalize outerP (-1) ((nzP Cs).map fun c => madeP c.1 c.2) = lo at O1 ⊢
  generalize outerP 1 ((nzP Cs).map fun c => madeP c.1 c.2) = hi at O2 ⊢
  have neV : ∀ L, L ∈ V → faceW L ≠ [] := fun L hL => by
    obtain ⟨L', h', e⟩ := F.sup L hL
    rw [← e]
    exact ne L' h'
  have held : ∀ (s : Int) (e : Int × Int), Out s Cs e → ((Hd.map valL).any fun v => decide (cmpP v e = 0)) = inP (Hd.map faceW) e := fun s e O => by
    unfold inP
    rw [List.any_map, List.any_map, Bool.eq_iff_iff, List.any_eq_true, List.any_eq_true]
    constructor
    · rintro ⟨L, hL, q⟩
      exact ⟨L, hL, (cmp_ord S O (F.hd L hL) (ne L hL)).2.mp (of_decide_eq_true q)⟩
    · rintro ⟨L, hL, q⟩
      exact ⟨L, hL, decide_eq_true ((cmp_ord S O (F.hd L hL) (ne L hL)).2.mpr q)⟩
  have inn : ∀ (s : Int) (e : Int × Int), Out s Cs e → ∀ L, L ∈ V → cmpP (valL L) e = 0 → inP (Hd.map faceW) e = true := fun s e O L hL q => by
    have q2 := (cmp_ord S O (F.v L hL) (neV L hL)).2.mp q
    obtain ⟨L', h', e2⟩ := F.sup L hL
    rw [← e2] at q2
    exact any_of (List.mem_map.mpr ⟨L', h', rfl⟩) q2
  have near : ∀ (s : Int) (e : Int × Int), Out s Cs e → ((V.map valL).any fun v => decide (absI (cmpP v e) * 10 ^ 30 ≤ absI v.2 * e.2)) = true := fun s e O => by
    obtain ⟨c, hc, h0, he⟩ := O.at_
    obtain ⟨L, hL, fa⟩ := F.far c hc
    exact any_of (List.mem_map.mpr ⟨L, hL, rfl⟩) (decide_eq_true (near_ok S O B (F.v L hL) (neV L hL) hc h0 he fa))
  have sml : ∀ (s : Int) (e : Int × Int), Out s Cs e → e.1.natAbs ≤ 4 * 10 ^ 13 ∧ e.2.natAbs ≤ 4 * 10 ^ 13 := fun s e O => by
    obtain ⟨c, hc, h0, he⟩ := O.at_
    rw [← he]
    have a := made_small (a := c.1) h0
    have b := B c hc
    omega
  refine ⟨?_, fun v hv => ?_, held _ _ O1, held _ _ O2, near _ _ O1, near _ _ O2, sml _ _ O1, sml _ _ O2⟩
  · obtain ⟨c, hc, h0, he⟩ := O1.at_
    have := O2.all c hc h0
    rw [he] at this
    unfold ordS dlt at this
    omega
  · obtain ⟨L, hL, rfl⟩ := List.mem_map.mp hv
    have a := (cmp_ord S O1 (F.v L hL) (neV L hL)).1
    have b := (cmp_ord S O2 (F.v L hL) (neV L hL)).1
    refine ⟨?_, ?_, inn _ _ O1 L hL, inn _ _ O2 L hL⟩
    · show 0 ≤ cmpP (dA L, dB L) lo
      omega
    · show cmpP (dA L, dB L) hi ≤ 0
      omega
/-! the law's own look at the corners -/
def nrI (bs : List Int) : Bool := bs.isEmpty || (bs.any (fun b => decide (b ≤ 0)) && bs.any (fun b => decide (0 ≤ b)))
theorem nr_no {bs bs' : List Int} (h : ∀ b, b ∈ bs ↔ b ∈ bs') : nrI bs = noI bs' := by
  unfold nrI noI
  rw [Bool.eq_iff_iff]
  simp only [Bool.or_eq_true, Bool.and_eq_true, List.any_eq_true, List.isEmpty_iff, decide_eq_true_eq]
  have e0 : bs = [] ↔ bs' = [] := by
    constructor
    · intro e; subst e
      exact List.eq_nil_iff_forall_not_mem.mpr fun b hb => nomatch (h b).mpr hb
    · intro e; subst e
      exact List.eq_nil_iff_forall_not_mem.mpr fun b hb => nomatch (h b).mp hb
  constructor
  · rintro (e | ⟨⟨b, hb, lb⟩, ⟨c, hc, lc⟩⟩)
    · exact .inr (.inl (e0.mp e))
    · by_cases z : b = 0
      · exact .inl ⟨b, (h b).mp hb, z⟩
      · by_cases z2 : c = 0
        · exact .inl ⟨c, (h c).mp hc, z2⟩
        · exact .inr (.inr ⟨⟨b, (h b).mp hb, by omega⟩, ⟨c, (h c).mp hc, by omega⟩⟩)
  · rintro (⟨b, hb, z⟩ | e | ⟨⟨b, hb, lb⟩, ⟨c, hc, lc⟩⟩)
    · exact .inr ⟨⟨b, (h b).mpr hb, by omega⟩, ⟨b, (h b).mpr hb, by omega⟩⟩
    · exact .inl (e0.mpr e)
    · exact .inr ⟨⟨b, (h b).mpr hb, by omega⟩, ⟨c, (h c).mpr hc, by omega⟩⟩
def sdV (s : Sd) : Int × Int := (s.p, s.q)
def c4P (ss : List Rw) : List (List Sd) := [cornP ss 0, cornP ss 1, cornP ss 2, cornP ss 3]
def c4V (top bottom : List Int) (ss : List Rw) : List (Int × Int) := (c4P ss).map fun l => (atP top (l.map sdV), atP bottom (l.map sdV))
theorem at_form {n : Nat} {f : List Int} (h : FormK n f) {l : List Sd} (hl : (n = 2 ∧ l.length = 1) ∨ (n = 4 ∧ l.length = 2)) : atP f (l.map sdV) = formP f l := by
  cases h with
  | two a b =>
    match l, hl with
    | [s], _ => simp [atP, formP, sdV]; grind
    | [], hl => simp at hl
    | _ :: _ :: _, hl => simp at hl
  | four a b c e =>
    match l, hl with
    | [s, t], _ => simp [atP, formP, sdV]; grind
    | [], hl => simp at hl
    | [_], hl => simp at hl
    | _ :: _ :: _ :: _, hl => simp at hl
theorem c4_mem {n : Nat} {ss : List Rw} (h : Shape n ss) {top bottom : List Int} (ht : FormK n top) (hb : FormK n bottom) : ∀ x, x ∈ c4V top bottom ss ↔ x ∈ crsP top bottom ss := by
  have key : ∀ l, l ∈ c4P ss ↔ l ∈ (crnP ss).map (·.2) := by
    cases h <;> intro l <;> simp [c4P, cornP, nth, crnP, crn1] <;> grind
  have len : ∀ l, l ∈ c4P ss → (n = 2 ∧ l.length = 1) ∨ (n = 4 ∧ l.length = 2) := by
    cases h <;> intro l <;> simp [c4P, cornP] <;> grind
  intro x
  unfold c4V crsP
  rw [List.mem_map, List.mem_map]
  constructor
  · rintro ⟨l, hl, rfl⟩
    obtain ⟨c, hc, e⟩ := List.mem_map.mp ((key l).mp hl)
    refine ⟨c, hc, ?_⟩
    rw [at_form ht (len l hl), at_form hb (len l hl), e]
  · rintro ⟨c, hc, rfl⟩
    have hl := (key c.2).mpr (List.mem_map.mpr ⟨c, hc, rfl⟩)
    exact ⟨c.2, hl, by rw [at_form ht (len _ hl), at_form hb (len _ hl)]⟩
def pointsP (ss : List Rw) (Ws : List (List (List Int))) : List (List (Int × Int)) := (cmbP Ws).map (ptsP ss)
def valsP (top bottom : List Int) (l : List (List (Int × Int))) : List (Int × Int) := l.map fun p => (atP top p, atP bottom p)
def nrP (top bottom : List Int) (ss : List Rw) : Bool := nrI ((nzP (c4V top bottom ss)).map (·.2)) || ((pointsP ss (ss.map suppP)).any fun p => decide (atP bottom p = 0))
theorem vals_wl {n : Nat} {ss : List Rw} (h : Shape n ss) {top bottom : List Int} (ht : FormK n top) (hb : FormK n bottom) {Ws : List (List (List Int))} (hw : ∀ ws, ws ∈ cmbP Ws → WsOk ss ws) :
    valsP top bottom (pointsP ss Ws) = ((cmbP Ws).map (wlP top bottom ss)).map valL := by
  unfold valsP pointsP
  rw [List.map_map, List.map_map]
  exact List.map_congr_left fun ws hws => pt_val h ht hb (hw ws hws).len
theorem face_empty {l : List (List (Int × Int))} : l.any List.isEmpty = true ↔ ∃ f, f ∈ l ∧ f = [] := by
  rw [List.any_eq_true]
  simp
theorem law_right {n : Nat} {ss : List Rw} (h : Shape n ss) (hr : ∀ r, r ∈ ss → RowK r) {top bottom : List Int} (ht : FormK n top) (hb : FormK n bottom) (B : Small (crsP top bottom ss)) {ds : List (Int × Int)} (hl : ds.length = ss.length) (hd : DrOk ds) :
    (nrP top bottom ss = true → rangeP top bottom ss = none) ∧
    (nrP top bottom ss = false → ∃ lo li hi hj, rangeP top bottom ss = some (lo, li, hi, hj) ∧ GoodE lo li hi hj (valsP top bottom (pointsP ss (wtsP ss ds))) (valsP top bottom (pointsP ss (ss.map suppP)))) := by
  obtain ⟨kw, F⟩ := fam_ok h hr (top := top) (bottom := bottom) hl hd
  have e1 : nrI ((nzP (c4V top bottom ss)).map (·.2)) = noP (nzP (crsP top bottom ss)) := nr_no fun b => by
    unfold nzP
    rw [List.mem_map, List.mem_map]
    constructor
    · rintro ⟨c, hc, rfl⟩
      obtain ⟨a, b⟩ := List.mem_filter.mp hc
      exact ⟨c, List.mem_filter.mpr ⟨(c4_mem h ht hb c).mp a, b⟩, rfl⟩
    · rintro ⟨c, hc, rfl⟩
      obtain ⟨a, b⟩ := List.mem_filter.mp hc
      exact ⟨c, List.mem_filter.mpr ⟨(c4_mem h ht hb c).mpr a, b⟩, rfl⟩
  have e2 : ((pointsP ss (ss.map suppP)).any fun p => decide (atP bottom p = 0)) = (valsP top bottom (pointsP ss (ss.map suppP))).any fun v => decide (v.2 = 0) := by
    unfold valsP
    rw [List.any_map]
    rfl
  have e3 : valsP top bottom (pointsP ss (ss.map suppP)) = ((cmbP (ss.map suppP)).map (wlP top bottom ss)).map valL := vals_wl h ht hb (supp_ws h)
  have ef := faces_held h top bottom
  unfold nrP
  rw [e1, e2, vals_wl h ht hb kw, e3]
  unfold rangeP
  rw [ef]
  cases hn : noP (nzP (crsP top bottom ss)) with
  | true => exact ⟨fun _ => by rw [if_pos rfl], fun q => by rw [Bool.true_or] at q; cases q⟩
  | false =>
    rw [Bool.false_or, if_neg (by decide)]
    obtain ⟨⟨sg, S⟩, _⟩ := sgn_of hn
    generalize hH : (cmbP (ss.map suppP)).map (wlP top bottom ss) = Hd at F ⊢
    refine ⟨fun q => ?_, fun q => ?_⟩
    · rw [List.any_map, List.any_eq_true] at q
      obtain ⟨L, hL, q⟩ := q
      have q2 : dB L = 0 := of_decide_eq_true q
      rw [if_pos (face_empty.mpr ⟨faceW L, List.mem_map.mpr ⟨L, hL, rfl⟩, (bottom_zero S (F.hd L hL)).mpr q2⟩)]
    · have ne : ∀ L, L ∈ Hd → faceW L ≠ [] := fun L hL z => by
        have z2 := (bottom_zero S (F.hd L hL)).mp z
        rw [List.any_map, List.any_eq_false] at q
        exact q L hL (decide_eq_true z2)
      rw [if_neg fun z => by
        obtain ⟨f, hf, e⟩ := face_empty.mp z
        obtain ⟨L, hL, rfl⟩ := List.mem_map.mp hf
        exact ne L hL e]
      exact ⟨_, _, _, _, rfl, good_ok hn B F ne⟩
/-! ## K95O -/
section
variable {P : Program} {w : World} {K : Frag} {mg : Str → Option Value} {base : Heap}
def vecD (l : List (Int × Int)) : Da := .lst (l.map frD)
inductive VecK : Nat → List (Int × Int) → Prop
  | one {p q : Int} : Bd 300 p → Bd 300 q → VecK 2 [(p, q)]
  | two {p q r s : Int} : Bd 300 p → Bd 300 q → Bd 300 r → Bd 300 s → VecK 4 [(p, q), (r, s)]
abbrev spAt : SpD := pureSp fun ds d => ∃ (n : Nat) (f : List Int) (l : List (Int × Int)), ds = [formD f, vecD l] ∧ (SForm n f ∧ VecK n l) ∧ d = .int (atP f l)
set_option maxHeartbeats 1000000 in
theorem ok_law_at (T : Txt K mg) : Fn P w K mg base 1 "_law_at" spAt := by
  obtain ⟨fd, F⟩ := T.says.def_ i_law_at (d := d_law_at) rfl
  refine fn_ok F (T.glo "_law_at" (by kernel_rfl)) (F.bindsN fun _ _ _ _ _ _ us hl => match us, hl with | [_, _], _ => rfl) sc_law_at (mono_pure _) ?_
  rintro ds Θ Post ⟨d, ⟨n, f, l, rfl, ⟨hf, hl⟩, rfl⟩, h⟩
  cases hl with
  | @one p q h3 h4 =>
    cases hf with
    | @two a b h1 h2 =>
    replace h1 := bd_le h1 (by decide : 60 ≤ 300)
    replace h2 := bd_le h2 (by decide : 60 ≤ 300)
    refine ⟨rfl, ?_⟩
    show ex _ _ [some (.lst [.int a, .int b]), some (.lst [frD (p, q)]), none, none, none, none, none, none, none, none] _ _
    walk_at "zz"
    exact fin h
  | @two p q r s h5 h6 h7 h8 =>
    cases hf with
    | @four a b c e h1 h2 h3 h4 =>
    refine ⟨rfl, ?_⟩
    replace h1 := bd_le h1 (by decide : 60 ≤ 300)
    replace h2 := bd_le h2 (by decide : 60 ≤ 300)
    replace h3 := bd_le h3 (by decide : 60 ≤ 300)
    replace h4 := bd_le h4 (by decide : 60 ≤ 300)
    have b1 := bd_mul h1 h5
    have b2 := bd_mul h2 h5
    have b3 := bd_mul h3 h6
    have b4 := bd_mul h4 h6
    show ex _ _ [some (.lst [.int a, .int b, .int c, .int e]), some (.lst [frD (p, q), frD (r, s)]), none, none, none, none, none, none, none, none] _ _
    walk_at "zz"
    exact fin h
abbrev sdR (s : Sd) : Da := s.D
/-- the sides are rows of one or two -/
inductive Rw12 : Rw → Prop
  | one (s : Sd) : Rw12 [s]
  | two (s t : Sd) : Rw12 [s, t]
def vecsD (l : List Sd) : Da := vecD (l.map sdV)
abbrev spCorner : SpD := pureSp fun ds d => ∃ (n : Nat) (ss : List Rw) (a : Nat), ds = [sidesD ss, .int a] ∧ (Shape n ss ∧ a < 4) ∧ d = vecsD (cornP ss a)
theorem at_nth {r : Rw} (h : 0 < r.length) (a : Nat) : atI (r.map Sd.D) ((a : Int) % (r.length : Int)) = some (nth r a).D := by
  have hl : a % r.length < r.length := Nat.mod_lt _ h
  unfold atI ixN
  rw [List.length_map, if_pos (by omega), if_pos (by omega)]
  show (r.map Sd.D)[((a : Int) % (r.length : Int)).toNat]? = _
  have e : ((a : Int) % (r.length : Int)).toNat = a % r.length := by omega
  rw [e, List.getElem?_map, List.getElem?_eq_getElem hl]
  unfold nth
  rw [List.getD_eq_getElem?_getD, List.getElem?_eq_getElem hl]
  rfl
theorem len_div {r : Rw} (h : 0 < r.length) (h2 : r.length ≤ 2) (x : Int) : CDivZ x (r.length : Int) := by
  refine ⟨by omega, ?_⟩
  have : r.length = 1 ∨ r.length = 2 := by omega
  rcases this with e | e <;> rw [e] <;> decide
theorem shape_rows {n : Nat} {ss : List Rw} (h : Shape n ss) : (∃ r, ss = [r] ∧ n = 2 ∧ 0 < r.length ∧ r.length ≤ 2) ∨ ∃ r t, ss = [r, t] ∧ n = 4 ∧ (0 < r.length ∧ r.length ≤ 2) ∧ 0 < t.length ∧ t.length ≤ 2 := by
  cases h <;> first | exact .inl ⟨_, rfl, rfl, by simp, by simp⟩ | exact .inr ⟨_, _, rfl, rfl, ⟨by simp, by simp⟩, by simp, by simp⟩
set_option maxHeartbeats 4000000 in
theorem ok_law_corner (T : Txt K mg) : Fn P w K mg base 1 "_law_corner" spCorner := by
  obtain ⟨fd, F⟩ := T.says.def_ i_law_corner (d := d_law_corner) rfl
  refine fn_ok F (T.glo "_law_corner" (by kernel_rfl)) (F.bindsN fun _ _ _ _ _ _ us hl => match us, hl with | [_, _], _ => rfl) sc_law_corner (mono_pure _) ?_
  rintro ds Θ Post ⟨d, ⟨n, ss, a, rfl, ⟨hs, ha⟩, rfl⟩, h⟩
  refine ⟨rfl, ?_⟩
  rcases shape_rows hs with ⟨r, rfl, _, r0, r2⟩ | ⟨r, t, rfl, _, ⟨r0, r2⟩, t0, t2⟩
  · show ex _ _ [some (.lst [rowD r]), some (.int a), none] _ _
    walk_at "zz"
    rw [List.length_map]
    refine ⟨by omega, ?_⟩
    walk_at "zz"
    refine ⟨_, _, _, .inl rfl, rfl, at_nth r0 a, ?_⟩
    walk_at "zz"
    exact fin h
  · show ex _ _ [some (.lst [rowD r, rowD t]), some (.int a), none] _ _
    walk_at "zz"
    rw [List.length_map]
    refine ⟨by omega, ?_⟩
    walk_at "zz"
    refine ⟨_, _, _, .inl rfl, rfl, at_nth r0 a, ?_⟩
    walk_at "zz"
    rw [List.length_map]
    refine ⟨len_div r0 r2 _, ?_⟩
    walk_at "zz"
    rw [List.length_map]
    refine ⟨by omega, ?_⟩
    rw [show (a : Int).fdiv (r.length : Int) = ((a / r.length : Nat) : Int) by rw [Int.fdiv_eq_ediv_of_nonneg _ (by omega)]; rfl]
    walk_at "zz"
    refine ⟨_, _, _, .inl rfl, rfl, at_nth t0 _, ?_⟩
    walk_at "zz"
    exact fin h
end
/-! ## K95Q -/
section
variable {P : Program} {w : World} {K : Frag} {mg : Str → Option Value} {base : Heap}
def wtsD (W : List (List Int)) : Da := .lst (W.map kL)
abbrev spSupp : SpD := pureSp fun ds d => ∃ r : Rw, ds = [rowD r] ∧ RowK r ∧ d = wtsD (suppP r)
theorem cut1 : cutD [.int 1, .int 0] none (some (([Da.non].length : Nat) : Int)) = [.int 1] := by kernel_rfl
theorem cut2 : cutD [.int 1, .int 0] none (some (([Da.non, Da.non].length : Nat) : Int)) = [.int 1, .int 0] := by kernel_rfl
set_option maxHeartbeats 800000 in
theorem ok_law_supports (T : Txt K mg) : Fn P w K mg base 1 "_law_supports" spSupp := by
  obtain ⟨fd, F⟩ := T.says.def_ i_law_supports (d := d_law_supports) rfl
  refine fn_ok F (T.glo "_law_supports" (by kernel_rfl)) (F.bindsN fun _ _ _ _ _ _ us hl => match us, hl with | [_], _ => rfl) sc_law_supports (mono_pure _) ?_
  rintro ds Θ Post ⟨d, ⟨r, rfl, hr, rfl⟩, h⟩
  refine ⟨rfl, ?_⟩
  cases hr with
  | one p q =>
    show ex _ _ [some (.lst [sdD p q true]), none, none] _ _
    walk_at "z"
    walk_at "zset"
    refine ei_range1 (by walk_at "zb") ?_
    repeat (first | walk_at "zq" | rw [rng1])
    refine ex1_ret (ev_catZ ?_)
    walk_at "z"
    refine ev_repZ ?_
    walk_at "zz"
    refine ⟨show RepOk 1 0 from ⟨by decide, by decide, by decide⟩, _, _, rfl, rfl, show CatOk 1 0 from by unfold CatOk; decide, ?_⟩
    exact fin h
  | two s t =>
    obtain ⟨p, q, b⟩ := s
    obtain ⟨p2, q2, b2⟩ := t
    show ex _ _ [some (.lst [sdD p q b, sdD p2 q2 b2]), none, none] _ _
    walk_at "z"
    walk_at "zset"
    refine ei_range1 (by walk_at "zb") ?_
    repeat (first | walk_at "z" | rw [rng2])
    cases b <;> cases b2
    all_goals
      repeat (first | walk_at "zq" | rw [rng2])
      refine ex1_ret (ev_catZ ?_)
      walk_at "z"
      refine ev_repZ ?_
      walk_at "zz"
      refine ⟨show RepOk 1 1 from ⟨by decide, by decide, by decide⟩, _, _, rfl, rfl, Nat.le_of_ble_eq_true (by rfl), ?_⟩
      exact fin h
/-- a row of sides and its weights -/
inductive PtK : Rw → List Int → Prop
  | one {s : Sd} {x : Int} : s.Sm → Bd 210 x → PtK [s] [x]
  | two {s t : Sd} {x y : Int} : s.Sm → t.Sm → Bd 210 x → Bd 210 y → PtK [s, t] [x, y]
abbrev spPoint : SpD := pureSp fun ds d => ∃ (r : Rw) (u : List Int), ds = [rowD r, kL u] ∧ PtK r u ∧ d = frD (pointP r u)
set_option maxHeartbeats 800000 in
theorem ok_law_point (T : Txt K mg) : Fn P w K mg base 1 "_law_point" spPoint := by
  obtain ⟨fd, F⟩ := T.says.def_ i_law_point (d := d_law_point) rfl
  refine fn_ok F (T.glo "_law_point" (by kernel_rfl)) (F.bindsN fun _ _ _ _ _ _ us hl => match us, hl with | [_, _], _ => rfl) sc_law_point (mono_pure _) ?_
  rintro ds Θ Post ⟨d, ⟨r, u, rfl, hr, rfl⟩, h⟩
  refine ⟨rfl, ?_⟩
  cases hr with
  | @one s x hs hx =>
    obtain ⟨p, q, b⟩ := s
    obtain ⟨s1, s2⟩ := hs
    replace s1 : Bd 3 p := s1
    replace s2 : Bd 3 q := s2
    show ex _ _ [some (.lst [sdD p q b]), some (.lst [.int x]), none, none, none] _ _
    walk_at "z"
    refine ex1_asgS (by intro env h; cases env; cases h; rfl) ?_
    walk_at "z"
    walk_at "zlc"
    refine ei_zip (by walk_at "zb") ?_
    repeat (first | walk_at "z" | rw [zip1])
    refine ⟨[x * p], rfl, ?_⟩
    walk_at "z"
    walk_at "z"
    refine ex1_ret (ev_tup ?_)
    walk_at "zz"
    walk_at "zlc"
    refine ei_zip (by walk_at "zb") ?_
    repeat (first | walk_at "z" | rw [zip1])
    refine ⟨[x * q], rfl, ?_⟩
    walk_at "zz"
    exact fin h
  | @two s t x y hs ht hx hy =>
    obtain ⟨p, q, b⟩ := s
    obtain ⟨p2, q2, b2⟩ := t
    obtain ⟨s1, s2⟩ := hs
    obtain ⟨t1, t2⟩ := ht
    replace s1 : Bd 3 p := s1
    replace s2 : Bd 3 q := s2
    replace t1 : Bd 3 p2 := t1
    replace t2 : Bd 3 q2 := t2
    show ex _ _ [some (.lst [sdD p q b, sdD p2 q2 b2]), some (.lst [.int x, .int y]), none, none, none] _ _
    walk_at "z"
    refine ex1_asgS (by intro env h; cases env; cases h; rfl) ?_
    walk_at "z"
    walk_at "zlc"
    refine ei_zip (by walk_at "zb") ?_
    repeat (first | walk_at "z" | rw [zip2])
    refine ⟨[x * p, y * p2], rfl, ?_⟩
    walk_at "z"
    walk_at "z"
    refine ex1_ret (ev_tup ?_)
    walk_at "zz"
    walk_at "zlc"
    refine ei_zip (by walk_at "zb") ?_
    repeat (first | walk_at "z" | rw [zip2])
    refine ⟨[x * q, y * q2], rfl, ?_⟩
    walk_at "zz"
    exact fin h
end
/-! ## K95R -/
section
variable {P : Program} {w : World} {K : Frag} {mg : Str → Option Value} {base : Heap}
/-- the lists of weights of all sides -/
inductive PsK : List Rw → List (List (List Int)) → Prop
  | one {r : Rw} {W : List (List Int)} : W.length ≤ 30 → (∀ u, u ∈ W → PtK r u) → PsK [r] [W]
  | two {r t : Rw} {W V : List (List Int)} : W.length ≤ 30 → V.length ≤ 30 → (∀ u, u ∈ W → PtK r u) → (∀ u, u ∈ V → PtK t u) → PsK [r, t] [W, V]
def rowsD (Ws : List (List (List Int))) : Da := .lst (Ws.map wtsD)
abbrev spPoints : SpD := pureSp fun ds d => ∃ (ss : List Rw) (Ws : List (List (List Int))), ds = [sidesD ss, rowsD Ws] ∧ PsK ss Ws ∧ d = .lst ((pointsP ss Ws).map vecD)
def unInts : Da → List Int
  | .lst xs => xs.map unInt
  | _ => []
theorem unInts_k (u : List Int) : unInts (kL u) = u := by
  show (u.map Da.int).map unInt = u
  rw [List.map_map]
  exact List.map_id'' (fun _ => rfl) u
theorem fm_wts (W : List (List Int)) (g : List Int → Da) : (W.map kL).filterMap (fun d => some (g (unInts d))) = W.map g := by
  rw [List.filterMap_map]
  have e : ((fun d => some (g (unInts d))) ∘ kL) = fun u => some (g u) := by funext u; simp [unInts_k]
  rw [e, ← List.filterMap_eq_map]
  rfl
theorem points_one (r : Rw) (W : List (List Int)) : (pointsP [r] [W]).map vecD = W.map fun u => vecD [pointP r u] := by
  unfold pointsP cmbP
  rw [List.map_map, List.map_map]
  rfl
theorem points_two (r t : Rw) (W V : List (List Int)) : (pointsP [r, t] [W, V]).map vecD = W.flatMap fun u => V.map fun v => vecD [pointP r u, pointP t v] := by
  unfold pointsP cmbP
  rw [List.map_flatMap, List.map_flatMap]
  congr 1
  funext u
  rw [List.map_map, List.map_map]
  rfl
theorem fmap_len {α β : Type} (W : List α) (V : List β) (g : α → β → Da) : (W.flatMap fun u => V.map fun v => g u v).length = W.length * V.length := by
  induction W with
  | nil => simp
  | cons x W ih => rw [List.flatMap_cons, List.length_append, ih, List.length_map, List.length_cons, Nat.succ_mul]; omega
set_option maxHeartbeats 2000000 in
theorem ok_law_points (T : Txt K mg) : Fn P w K mg base 2 "_law_points" spPoints := by
  have F1 : Fn P w K mg base 1 "_law_point" spPoint := ok_law_point T
  obtain ⟨fd, F⟩ := T.says.def_ i_law_points (d := d_law_points) rfl
  refine fn_ok F (T.glo "_law_points" (by kernel_rfl)) (F.bindsN fun _ _ _ _ _ _ us hl => match us, hl with | [_, _], _ => rfl) sc_law_points (mono_pure _) ?_
  rintro ds Θ Post ⟨d, ⟨ss, Ws, rfl, hk, rfl⟩, h⟩
  refine ⟨rfl, ?_⟩
  cases hk with
  | @one r W hW k =>
    show ex _ _ [some (.lst [rowD r]), some (.lst [wtsD W]), none, none, none, none, none] _ _
    walk_at "z"
    walk_at "zset"
    refine ei_lst ?_
    walk_at "zz"
    refine ⟨sz (by rw [List.length_map]; omega), ?_⟩
    refine lcT_fm (fun d => some (vecD [pointP r (unInts d)])) (by kernel_rfl) (by walk_at "zat") (by kernel_rfl) (by kernel_rfl) (by intro _; walk_at "zs") ?_ ?_
    · intro d hd
      obtain ⟨u, hu, rfl⟩ := List.mem_map.mp hd
      walk_at "zz"
      refine ⟨_, ⟨r, u, rfl, k u hu, rfl⟩, ?_⟩
      walk_at "zz"
      show some (vecD [pointP r (unInts (kL u))]) = _
      rw [unInts_k]
      rfl
    rw [List.nil_append, fm_wts W fun u => vecD [pointP r u]]
    dsimp only [List.set]
    walk_at "zz"
    rw [points_one] at h
    exact fin h
  | @two r t W V hW hV k k2 =>
    show ex _ _ [some (.lst [rowD r, rowD t]), some (.lst [wtsD W, wtsD V]), none, none, none, none, none] _ _
    walk_at "z"
    walk_at "zset"
    refine ei_lst ?_
    walk_at "zz"
    refine ⟨sz (by rw [List.length_map]; omega), ?_⟩
    refine lcT_fm (fun d => some (vecD [pointP r (unInts d)])) (by kernel_rfl) (by walk_at "zat") (by kernel_rfl) (by kernel_rfl) (by intro _; walk_at "zs") ?_ ?_
    · intro d hd
      obtain ⟨u, hu, rfl⟩ := List.mem_map.mp hd
      walk_at "zz"
      refine ⟨_, ⟨r, u, rfl, k u hu, rfl⟩, ?_⟩
      walk_at "zz"
      show some (vecD [pointP r (unInts (kL u))]) = _
      rw [unInts_k]
      rfl
    rw [List.nil_append, fm_wts W fun u => vecD [pointP r u]]
    dsimp only [List.set]
    walk_at "zv"
    walk_at "z"
    walk_at "zv"
    refine ex1_asg (ev_lstM ?_)
    walk_at "z"
    refine ⟨by decide, fun q hq => ?_⟩
    walk_at "zz"
    refine ex1_for (fun ds m Γ1 Θ1 => ∃ x1 x2 x3, Γ1 = [some (.lst [rowD r, rowD t]), some (.lst [wtsD W, wtsD V]), some (.lst (W.map fun u => vecD [pointP r u])), some (.obj q), x1, x2, x3] ∧ Θ1 = updS Θ q (.lst ((W.take m).flatMap fun u => V.map fun v => vecD [pointP r u, pointP t v]))) ?_
    refine ei_lst ?_
    walk_at "z"
    refine ⟨_, .inl rfl, ⟨_, _, _, rfl, rfl⟩, ?_, ?_⟩
    · rintro m d Γ1 Θ1 hd ⟨x1, x2, x3, rfl, rfl⟩
      rw [List.getElem?_map] at hd
      cases hu : W[m]? with
      | none => rw [hu] at hd; cases hd
      | some u =>
      rw [hu] at hd
      cases hd
      have hm : m < W.length := (List.getElem?_eq_some_iff.mp hu).1
      walk_at "z"
      refine ex_cons (ex1_expr (ev_extL (by kernel_rfl) ?_))
      walk_at "z"
      refine ⟨_, _, rfl, updS_same, ?_⟩
      walk_at "zlc"
      refine ei_lst ?_
      walk_at "zz"
      refine ⟨sz (by rw [List.length_map]; omega), ?_⟩
      refine lcT_fm (fun d => some (vecD [pointP r u, pointP t (unInts d)])) (by kernel_rfl) (by walk_at "zat") (by kernel_rfl) (by kernel_rfl) (by intro _; walk_at "zs") ?_ ?_
      · intro d hd
        obtain ⟨v, hv, rfl⟩ := List.mem_map.mp hd
        refine ets_nil (ev_cat ?_)
        walk_at "zz"
        refine ⟨_, ⟨t, v, rfl, k2 v hv, rfl⟩, ?_⟩
        walk_at "zz"
        exact ⟨[frD (pointP r u)], [frD (pointP t v)], .inl rfl, .inl rfl, Nat.le_of_ble_eq_true rfl, rfl, by rw [unInts_k]; rfl⟩
      rw [List.nil_append, fm_wts V fun v => vecD [pointP r u, pointP t v]]
      have hl : ((W.take m).flatMap fun u => V.map fun v => vecD [pointP r u, pointP t v]).length + (V.map fun v => vecD [pointP r u, pointP t v]).length ≤ 2000 := by
        rw [fmap_len, List.length_map, List.length_take]
        have : min m W.length * V.length ≤ 30 * 30 := Nat.mul_le_mul (by omega) hV
        omega
      refine ⟨_, _, rfl, updS_same, Nat.le_of_lt (sz hl), ?_⟩
      rw [updS_updS]
      have e : ((W.take m).flatMap fun u => V.map fun v => vecD [pointP r u, pointP t v]) ++ (V.map fun v => vecD [pointP r u, pointP t v]) = (W.take (m + 1)).flatMap fun u => V.map fun v => vecD [pointP r u, pointP t v] := by
        rw [List.take_add_one, hu, Option.toList_some, List.flatMap_append]
        simp
      rw [e]
      walk_at "zz"
      exact ⟨_, _, _, rfl, rfl⟩
    · rintro Γ1 Θ1 ⟨x1, x2, x3, rfl, rfl⟩
      rw [List.length_map, List.take_length]
      walk_at "zz"
      rw [points_two] at h
      exact finF hq h
end
/-! ## K95U -/
section
variable {P : Program} {w : World} {K : Frag} {mg : Str → Option Value} {base : Heap}
def FormB (m : Nat) (f : List Int) : Prop := FormK m f ∧ ∀ x, x ∈ f → x.natAbs ≤ 2 * 10 ^ 12
theorem FormOk.b {m : Nat} {f : List Int} (h : FormOk m f) (hm : m = 2 ∨ m = 4) : FormB m f := by
  obtain ⟨h1, h2⟩ := h
  refine ⟨?_, fun x hx => by have := h2 x hx; omega⟩
  rcases hm with rfl | rfl
  · match f, h1 with
    | [a, b], _ => exact .two a b
  · match f, h1 with
    | [a, b, c, d], _ => exact .four a b c d
theorem FormB.s {m : Nat} {f : List Int} (h : FormB m f) : SForm m f := by
  obtain ⟨h1, h2⟩ := h
  have q : ∀ x, x ∈ f → Bd 60 x := fun x hx => by have := h2 x hx; unfold Bd; omega
  cases h1 with
  | two a b => exact .two (q a (by simp)) (q b (by simp))
  | four a b c d => exact .four (q a (by simp)) (q b (by simp)) (q c (by simp)) (q d (by simp))
/-- the six rows that are drawn -/
inductive RowG : Rw → Prop
  | a : RowG [⟨1, 0, true⟩]
  | b : RowG [⟨1, 1, false⟩, ⟨1, 0, true⟩]
  | c : RowG [⟨1, 1, false⟩, ⟨1, 0, false⟩]
  | d : RowG [⟨2, 1, false⟩, ⟨2, -1, true⟩]
  | e : RowG [⟨2, 1, false⟩, ⟨1, 0, false⟩]
  | f : RowG [⟨1, 0, true⟩, ⟨2, -1, true⟩]
def Sd2 (s : Sd) : Prop := s.p.natAbs ≤ 2 ∧ s.q.natAbs ≤ 2
theorem RowG.k {r : Rw} (h : RowG r) : RowK r := by cases h <;> constructor
theorem RowG.s2 {r : Rw} (h : RowG r) : ∀ s, s ∈ r → Sd2 s := by
  intro s hs
  cases h <;> simp at hs <;> (try rcases hs with rfl | rfl) <;> (try subst hs) <;> exact ⟨by decide, by decide⟩
theorem Sd2.sm {s : Sd} (h : Sd2 s) : s.Sm := by
  obtain ⟨a, b⟩ := h
  exact ⟨by unfold Bd; omega, by unfold Bd; omega⟩
theorem corn_mem {n : Nat} {ss : List Rw} (h : Shape n ss) (a : Nat) : (n = 2 ∧ ∃ s, cornP ss a = [s] ∧ ∃ r, r ∈ ss ∧ s ∈ r) ∨ (n = 4 ∧ ∃ s t, cornP ss a = [s, t] ∧ (∃ r, r ∈ ss ∧ s ∈ r) ∧ ∃ r, r ∈ ss ∧ t ∈ r) := by
  have q : ∀ {r : Rw} (i : Nat), 0 < r.length → nth r i ∈ r := fun {r} i hr => by
    unfold nth
    rw [List.getD_eq_getElem?_getD, List.getElem?_eq_getElem (Nat.mod_lt _ hr)]
    exact List.getElem_mem _
  rcases shape_rows h with ⟨r, rfl, hn, r0, _⟩ | ⟨r, t, rfl, hn, ⟨r0, _⟩, t0, _⟩
  · exact .inl ⟨hn, _, rfl, r, by simp, q _ r0⟩
  · exact .inr ⟨hn, _, _, rfl, ⟨r, by simp, q _ r0⟩, t, by simp, q _ t0⟩
abbrev spNought : SpD := fun ds Θ Post => ∃ (p : Addr) (o : Ob) (k n : Nat) (f : List Int) (ss : List Rw), ds = [.obj p, formD f, sidesD ss] ∧ Shape n ss ∧ (∀ r, r ∈ ss → ∀ s, s ∈ r → Sd2 s) ∧ FormOk n f ∧ Θ p = some o ∧ PurO o k ∧ k ≤ 900 ∧ ∀ (f' : List Int) (o' : Ob), FormB n f' → PurO o' (k + 2) → Post (formD f') (updS Θ p o')
theorem mono_nought : Mono spNought := fun _ _ _ _ q ⟨p, o, k, n, f, ss, e, h0, h1, h2, h3, h4, h5, h⟩ => ⟨p, o, k, n, f, ss, e, h0, h1, h2, h3, h4, h5, fun x y a b => q _ _ (h x y a b)⟩
theorem mul2 {a b : Int} (ha : a.natAbs ≤ 10 ^ 12) (hb : b.natAbs ≤ 2) : (a * b).natAbs ≤ 2 * 10 ^ 12 := by
  rw [Int.natAbs_mul]
  have := Nat.mul_le_mul ha hb
  omega
set_option maxHeartbeats 2000000 in
theorem ok_law_nought_at (T : Txt K mg) : Fn P w K mg base 2 "_law_nought_at" spNought := by
  have F1 : Fn P w K mg base 1 "_law_take" spTake := ok_law_take T
  have F2 : Fn P w K mg base 1 "_law_corner" spCorner := ok_law_corner T
  obtain ⟨fd, F⟩ := T.says.def_ i_law_nought_at (d := d_law_nought_at) rfl
  refine fn_ok F (T.glo "_law_nought_at" (by kernel_rfl)) (F.bindsN fun _ _ _ _ _ _ us hl => match us, hl with | [_, _, _], _ => rfl) sc_law_nought_at (mono_nought) ?_
  rintro ds Θ Post ⟨p, o, k, n, f, ss, rfl, hs, h2, hf, hp, ho, hk, h⟩
  refine ⟨rfl, ?_⟩
  show ex _ _ [some (.obj p), some (formD f), some (sidesD ss), none, none, none, none, none, none] _ _
  walk_at "zz"
  refine ⟨p, o, k, 4, rfl, hp, ho, by omega, by decide, by decide, fun d o1 d0 d1 ho1 => ?_⟩
  have hp1 : updS Θ p o1 p = some o1 := updS_same
  walk_at "zz"
  refine ⟨_, ⟨n, ss, d.toNat, by rw [Int.toNat_of_nonneg d0], ⟨hs, by omega⟩, rfl⟩, ?_⟩
  walk_at "zz"
  rcases corn_mem hs d.toNat with ⟨rfl, s, e, r, hr, hsr⟩ | ⟨rfl, s, t, e, ⟨r, hr, hsr⟩, r2, hr2, htr⟩
  · rw [e]
    obtain ⟨s1, s2⟩ := h2 r hr s hsr
    obtain ⟨p', q', b'⟩ := s
    walk_at "zz"
    have h3 : FormB 2 [q', -p'] := ⟨.two _ _, by
      intro x hx
      replace s1 : p'.natAbs ≤ 2 := s1
      replace s2 : q'.natAbs ≤ 2 := s2
      simp at hx
      rcases hx with rfl | rfl <;> omega⟩
    exact fin (h _ _ h3 (ho1.le (by omega)))
  · rw [e]
    obtain ⟨s1, s2⟩ := h2 r hr s hsr
    obtain ⟨t1, t2⟩ := h2 r2 hr2 t htr
    obtain ⟨p', q', b'⟩ := s
    obtain ⟨r', s', b2'⟩ := t
    replace s1 : p'.natAbs ≤ 2 := s1
    replace s2 : q'.natAbs ≤ 2 := s2
    replace t1 : r'.natAbs ≤ 2 := t1
    replace t2 : s'.natAbs ≤ 2 := t2
    obtain ⟨a, b, c, g, rfl⟩ : ∃ a b c g, f = [a, b, c, g] := by
      match f, hf.1 with
      | [a, b, c, g], _ => exact ⟨a, b, c, g, rfl⟩
    have fb := hf.2
    have na : a.natAbs ≤ 10 ^ 12 := by have := fb a (by simp); omega
    have nb : b.natAbs ≤ 10 ^ 12 := by have := fb b (by simp); omega
    have nc : c.natAbs ≤ 10 ^ 12 := by have := fb c (by simp); omega
    have na' : (-a).natAbs ≤ 10 ^ 12 := by omega
    have nb' : (-b).natAbs ≤ 10 ^ 12 := by omega
    have nc' : (-c).natAbs ≤ 10 ^ 12 := by omega
    have ba : Bd 50 a := by unfold Bd; omega
    have bb : Bd 50 b := by unfold Bd; omega
    have bc : Bd 50 c := by unfold Bd; omega
    have ba' : Bd 50 (-a) := by unfold Bd; omega
    have bb' : Bd 50 (-b) := by unfold Bd; omega
    have bc' : Bd 50 (-c) := by unfold Bd; omega
    have bp : Bd 3 p' := by unfold Bd; omega
    have bq : Bd 3 q' := by unfold Bd; omega
    have br : Bd 3 r' := by unfold Bd; omega
    have bs : Bd 3 s' := by unfold Bd; omega
    clear fb
    walk_at "zz"
    refine ⟨p, o1, k + 1, 2, rfl, hp1, ho1, by omega, by decide, by decide, fun d2 o2 d20 d21 ho2 => ?_⟩
    rw [updS_updS]
    walk_at "zz"
    refine br_dec (fun _ => ?_) (fun _ => ?_)
    · walk_at "zz"
      have h3 : FormB 4 [a * q', b * q', -a * p', -b * p'] := ⟨.four _ _ _ _, by
        intro x hx
        simp only [List.mem_cons, List.not_mem_nil, or_false] at hx
        rcases hx with rfl | rfl | rfl | rfl
        · exact mul2 na s2
        · exact mul2 nb s2
        · exact mul2 na' s1
        · exact mul2 nb' s1⟩
      exact fin (h _ _ h3 (ho2.le (by omega)))
    · walk_at "zz"
      have h3 : FormB 4 [a * s', -a * r', c * s', -c * r'] := ⟨.four _ _ _ _, by
        intro x hx
        simp only [List.mem_cons, List.not_mem_nil, or_false] at hx
        rcases hx with rfl | rfl | rfl | rfl
        · exact mul2 na t2
        · exact mul2 na' t1
        · exact mul2 nc t2
        · exact mul2 nc' t1⟩
      exact fin (h _ _ h3 (ho2.le (by omega)))
/-! the sides -/
def someT : List (List Int) := [[3], [3, 5], [3, 2], [3, 1], [3, -2], [0, -3, -2]]
def lastI (ts : List Int) : Int := ts.getLast?.getD 0
def c1P (k : Kd) (l : Int) : Bool := match k with
  | .fl => decide (l < 2)
  | .ce => decide (l < 2) || decide (l = 1)
  | .ne => false
def adj1 (k : Kd) (ts : List Int) : List Int := if c1P k (lastI ts) then (match k with | .fl => [-4, 1] | _ => [-4, 3]) else ts
def adj2 (k : Kd) (ts : List Int) : List Int := match k with
  | .ne => if lastI ts = 1 then [0, 2] else ts
  | _ => ts
def adjP (k : Kd) (ts : List Int) : List Int := adj2 k (adj1 k ts)
theorem adj_legal : ∀ k ts, ts ∈ someT → Legal k (adjP k ts) ∧ ∀ e, RowG (sidesP k (adjP k ts) e) := by
  intro k ts h
  simp only [someT, List.mem_cons, List.not_mem_nil, or_false] at h
  cases k <;> rcases h with rfl | rfl | rfl | rfl | rfl | rfl <;> refine ⟨by first | exact .one | exact .two rfl | exact .three rfl rfl, fun e => ?_⟩ <;> cases e <;> first | exact .a | exact .b | exact .c | exact .d | exact .e | exact .f
end
/-! ## K95S -/
section
variable {P : Program} {w : World} {K : Frag} {mg : Str → Option Value} {base : Heap}
/-- the sides, the forms of a drawn case -/
structure Case (n : Nat) (top bottom : List Int) (ss : List Rw) : Prop where
  sh : Shape n ss
  g : ∀ r, r ∈ ss → RowG r
  t : FormB n top
  b : FormB n bottom
theorem supp_bd {r : Rw} (hr : RowK r) : (suppP r).length ≤ 30 ∧ ∀ u, u ∈ suppP r → u.length = r.length ∧ ∀ x, x ∈ u → Bd 210 x := by
  have b0 : Bd 210 0 := by unfold Bd; decide
  have b1 : Bd 210 1 := by unfold Bd; decide
  cases hr with
  | one p q => exact ⟨by simp [suppP], fun u hu => by simp [suppP] at hu; subst hu; exact ⟨rfl, by simp [b1]⟩⟩
  | two s t =>
    refine ⟨?_, fun u hu => ?_⟩
    · obtain ⟨p, q, b⟩ := s
      obtain ⟨p2, q2, b2⟩ := t
      cases b <;> cases b2 <;> exact Nat.le_of_ble_eq_true rfl
    · refine ⟨(supp_ok _ u hu).1, ?_⟩
      unfold suppP at hu
      simp only [List.mem_append] at hu
      rcases hu with hu | hu | hu
      · cases q : s.b <;> rw [q] at hu <;> simp at hu
        subst hu
        simp [b0, b1]
      · cases q : t.b <;> rw [q] at hu <;> simp at hu
        subst hu
        simp [b0, b1]
      · simp at hu
        subst hu
        simp [b1]
theorem wt_pt {r : Rw} (hr : RowK r) (hs : ∀ s, s ∈ r → s.Sm) {u : List Int} (hl : u.length = r.length) (hb : ∀ x, x ∈ u → Bd 210 x) : PtK r u := by
  cases hr with
  | one p q =>
    obtain ⟨x, rfl⟩ := len1 hl
    exact .one (hs _ (by simp)) (hb x (by simp))
  | two s t =>
    obtain ⟨x, y, rfl⟩ := len2 hl
    exact .two (hs _ (by simp)) (hs _ (by simp)) (hb x (by simp)) (hb y (by simp))
theorem RowG.sm {r : Rw} (h : RowG r) : ∀ s, s ∈ r → s.Sm := fun s hs => (h.s2 s hs).sm
theorem supp_pt {r : Rw} (h : RowG r) : (suppP r).length ≤ 30 ∧ ∀ u, u ∈ suppP r → PtK r u :=
  ⟨(supp_bd h.k).1, fun u hu => wt_pt h.k h.sm ((supp_bd h.k).2 u hu).1 ((supp_bd h.k).2 u hu).2⟩
theorem supp_ps {n : Nat} {ss : List Rw} (h : Shape n ss) (g : ∀ r, r ∈ ss → RowG r) : PsK ss (ss.map suppP) := by
  rcases two_rows h with ⟨r, rfl⟩ | ⟨r, t, rfl⟩
  · obtain ⟨a, b⟩ := supp_pt (g r (by simp))
    exact .one a b
  · obtain ⟨a, b⟩ := supp_pt (g r (by simp))
    obtain ⟨c, d⟩ := supp_pt (g t (by simp))
    exact .two a c b d
theorem pt_bd {r : Rw} {u : List Int} (h : PtK r u) : Bd 220 (pointP r u).1 ∧ Bd 220 (pointP r u).2 := by
  cases h with
  | @one s x h1 h2 =>
    refine ⟨?_, ?_⟩ <;> simp [pointP]
    · exact bd_le (bd_mul h2 h1.1) (by decide)
    · exact bd_le (bd_mul h2 h1.2) (by decide)
  | @two s t x y h1 h2 h3 h4 =>
    refine ⟨?_, ?_⟩ <;> simp [pointP]
    · exact bd_le (bd_add (bd_mul h3 h1.1) (bd_mul h4 h2.1)) (by decide)
    · exact bd_le (bd_add (bd_mul h3 h1.2) (bd_mul h4 h2.2)) (by decide)
/-- the points are vectors of the right number -/
theorem pts_k {n : Nat} {ss : List Rw} {Ws : List (List (List Int))} (h : Shape n ss) (hp : PsK ss Ws) : (pointsP ss Ws).length ≤ 1000 ∧ ∀ l, l ∈ pointsP ss Ws → VecK n l := by
  have up : ∀ {x : Int}, Bd 220 x → Bd 300 x := fun h => bd_le h (by decide)
  cases hp with
  | @one r W h1 h2 =>
    refine ⟨by unfold pointsP cmbP; rw [List.length_map, List.length_map]; omega, fun l hl => ?_⟩
    unfold pointsP at hl
    obtain ⟨ws, hws, rfl⟩ := List.mem_map.mp hl
    rcases cmb_mem hws with ⟨W', u, e, rfl, hm⟩ | ⟨_, _, _, _, e, _⟩
    · cases e
      obtain ⟨a, b⟩ := pt_bd (h2 u hm)
      have hn : n = 2 := by cases h <;> rfl
      subst hn
      exact .one (up a) (up b)
    · cases e
  | @two r t W V h1 h2 h3 h4 =>
    refine ⟨?_, fun l hl => ?_⟩
    · have e : (pointsP [r, t] [W, V]).length = W.length * V.length := by
        rw [← fmap_len W V fun u v => Da.non]
        unfold pointsP cmbP
        rw [List.length_map, List.length_flatMap, List.length_flatMap]
        congr 1
        apply List.map_congr_left
        intro a _
        simp
      rw [e]
      calc W.length * V.length ≤ 30 * 30 := Nat.mul_le_mul h1 h2
        _ ≤ 1000 := by decide
    · unfold pointsP at hl
      obtain ⟨ws, hws, rfl⟩ := List.mem_map.mp hl
      rcases cmb_mem hws with ⟨W', u, e, _⟩ | ⟨_, _, u, v, e, rfl, hm, hm2⟩
      · cases e
      · cases e
        obtain ⟨a, b⟩ := pt_bd (h3 u hm)
        obtain ⟨c, d⟩ := pt_bd (h4 v hm2)
        have hn : n = 4 := by cases h <;> rfl
        subst hn
        exact .two (up a) (up b) (up c) (up d)
/-- a corner's vectors -/
theorem corn_k {n : Nat} {ss : List Rw} (h : Shape n ss) (g : ∀ r, r ∈ ss → RowG r) (a : Nat) : VecK n ((cornP ss a).map sdV) := by
  have up : ∀ {x : Int}, Bd 3 x → Bd 300 x := fun h => bd_le h (by decide)
  rcases corn_mem h a with ⟨rfl, s, e, r, hr, hsr⟩ | ⟨rfl, s, t, e, ⟨r, hr, hsr⟩, r2, hr2, htr⟩
  · rw [e]
    obtain ⟨a, b⟩ := (g r hr).sm s hsr
    exact .one (up a) (up b)
  · rw [e]
    obtain ⟨a, b⟩ := (g r hr).sm s hsr
    obtain ⟨c, d⟩ := (g r2 hr2).sm t htr
    exact .two (up a) (up b) (up c) (up d)
def unVec : Da → List (Int × Int)
  | .lst xs => xs.map unFr
  | _ => []
theorem unVec_vec (l : List (Int × Int)) : unVec (vecD l) = l := by
  show (l.map frD).map unFr = l
  rw [List.map_map]
  exact List.map_id'' (fun _ => rfl) l
theorem fm_bots (top bottom : List Int) (l : List (List Sd)) : (l.map vecsD).filterMap (fun d => if atP top (unVec d) = 0 ∧ atP bottom (unVec d) = 0 then none else some (Da.int (atP bottom (unVec d)))) =
    ((nzP (l.map fun l => (atP top (l.map sdV), atP bottom (l.map sdV)))).map (·.2)).map Da.int := by
  induction l with
  | nil => rfl
  | cons c l ih =>
    rw [List.map_cons, List.filterMap_cons, ih, List.map_cons]
    unfold vecsD
    rw [unVec_vec]
    unfold nzP
    by_cases e : ((atP top (c.map sdV), atP bottom (c.map sdV)) : Int × Int) = (0, 0)
    · rw [List.filter_cons_of_neg (by simpa using e), if_pos (by simpa using e)]
    · rw [List.filter_cons_of_pos (p := fun c : Int × Int => decide (c ≠ (0, 0))) (decide_eq_true e), if_neg (fun z => e (by rw [z.1, z.2]))]
      rfl
theorem fm_supp (ss : List Rw) : (ss.map rowD).filterMap (fun d => some (wtsD (suppP (unRow d)))) = (ss.map suppP).map wtsD := by
  rw [fm_rows ss fun r => wtsD (suppP r), List.map_map]
  rfl
theorem fm_bz (bottom : List Int) (l : List (List (Int × Int))) : (l.map vecD).filterMap (fun d => if atP bottom (unVec d) = 0 then some d else none) = (l.filter fun p => decide (atP bottom p = 0)).map vecD := by
  induction l with
  | nil => rfl
  | cons p l ih =>
    rw [List.map_cons, List.filterMap_cons, ih, unVec_vec]
    by_cases q : atP bottom p = 0
    · rw [if_pos q, List.filter_cons_of_pos (by simpa using q)]; rfl
    · rw [if_neg q, List.filter_cons_of_neg (by simpa using q)]
theorem filter_any2 {α : Type} (l : List α) (p : α → Bool) : (!(l.filter p).isEmpty) = l.any p := by
  induction l with
  | nil => rfl
  | cons v l ih =>
    rw [List.any_cons]
    cases e : p v with
    | true => rw [List.filter_cons_of_pos e]; rfl
    | false => rw [List.filter_cons_of_neg (by rw [e]; decide), ih]; rfl
theorem toP_vec (l : List (Int × Int)) : toP (vecD l) = some (facP l) := toP_fracs l
theorem toP_vecs (l : List (List (Int × Int))) : toP (.lst (l.map vecD)) = some (.list (l.map facP)) := by
  rw [toP, toPs_map toP_vec]; rfl
abbrev spNoRange : SpD := pureSp fun ds d => ∃ (n : Nat) (top bottom : List Int) (ss : List Rw), ds = [formD top, formD bottom, sidesD ss] ∧ Case n top bottom ss ∧ d = .bl (nrP top bottom ss)
set_option maxHeartbeats 2000000 in
theorem ok_law_no_range (T : Txt K mg) : Fn P w K mg base 3 "_law_no_range" spNoRange := by
  have F1 : Fn P w K mg base 1 "_law_corner" spCorner := ok_law_corner T
  have F2 : Fn P w K mg base 1 "_law_at" spAt := ok_law_at T
  have F3 : Fn P w K mg base 1 "_law_supports" spSupp := ok_law_supports T
  have F4 : Fn P w K mg base 2 "_law_points" spPoints := ok_law_points T
  obtain ⟨fd, F⟩ := T.says.def_ i_law_no_range (d := d_law_no_range) rfl
  refine fn_ok F (T.glo "_law_no_range" (by kernel_rfl)) (F.bindsN fun _ _ _ _ _ _ us hl => match us, hl with | [_, _, _], _ => rfl) sc_law_no_range (mono_pure _) ?_
  rintro ds Θ Post ⟨d, ⟨n, top, bottom, ss, rfl, c, rfl⟩, h⟩
  refine ⟨rfl, ?_⟩
  have hs := c.sh
  have st := c.t.s
  have sb := c.b.s
  show ex _ _ [some (formD top), some (formD bottom), some (sidesD ss), none, none, none, none, none, none] _ _
  walk_at "zv"
  walk_at "zset"
  refine ei_range1 (by walk_at "zb") ?_
  walk_at "zv"
  rw [rg4]
  walk_at "zv"
  refine ⟨_, ⟨n, ss, 0, rfl, ⟨hs, by decide⟩, rfl⟩, ?_⟩
  walk_at "zv"
  refine ⟨_, ⟨n, ss, 1, rfl, ⟨hs, by decide⟩, rfl⟩, ?_⟩
  walk_at "zv"
  refine ⟨_, ⟨n, ss, 2, rfl, ⟨hs, by decide⟩, rfl⟩, ?_⟩
  walk_at "zv"
  refine ⟨_, ⟨n, ss, 3, rfl, ⟨hs, by decide⟩, rfl⟩, ?_⟩
  walk_at "zv"
  dsimp only [List.set]
  walk_at "zset"
  refine ei_lst ?_
  walk_at "z"
  refine ⟨_, .inl rfl, Nat.le_of_ble_eq_true (by rfl), ?_⟩
  show lcT _ _ _ _ _ _ _ _ ((c4P ss).map vecsD) [] Θ
  have ck : ∀ l, l ∈ c4P ss → VecK n (l.map sdV) := fun l hl => by
    simp only [c4P, List.mem_cons, List.not_mem_nil, or_false] at hl
    rcases hl with rfl | rfl | rfl | rfl <;> exact corn_k hs c.g _
  refine lcT_fm (fun d => if atP top (unVec d) = 0 ∧ atP bottom (unVec d) = 0 then none else some (Da.int (atP bottom (unVec d)))) (by kernel_rfl) (by walk_at "zat") (by kernel_rfl) (by kernel_rfl) (by intro _; walk_at "zs") ?_ ?_
  · intro d hd
    obtain ⟨l, hl, rfl⟩ := List.mem_map.mp hd
    have hv := ck l hl
    have ev : unVec (vecsD l) = l.map sdV := unVec_vec _
    refine ets_one (et_bo (ew_or ?_))
    walk_at "zv"
    refine ⟨_, ⟨n, top, l.map sdV, rfl, ⟨st, hv⟩, rfl⟩, ?_⟩
    walk_at "zv"
    refine br_ndec (fun e => ?_) (fun e => ?_)
    · walk_at "zv"
      refine ⟨_, ⟨n, bottom, l.map sdV, rfl, ⟨sb, hv⟩, rfl⟩, ?_⟩
      refine ⟨rfl, ?_⟩
      rw [ev]
      exact if_neg fun z => e z.1
    · walk_at "zv"
      refine ⟨_, ⟨n, bottom, l.map sdV, rfl, ⟨sb, hv⟩, rfl⟩, ?_⟩
      walk_at "zv"
      refine br_ndec (fun e2 => ?_) (fun e2 => ?_)
      · walk_at "zv"
        refine ⟨_, ⟨n, bottom, l.map sdV, rfl, ⟨sb, hv⟩, rfl⟩, ?_⟩
        refine ⟨rfl, ?_⟩
        rw [ev]
        exact if_neg fun z => e2 z.2
      · refine ⟨rfl, ?_⟩
        rw [ev]
        exact if_pos ⟨e, e2⟩
  rw [List.nil_append, fm_bots, show (c4P ss).map (fun l => (atP top (l.map sdV), atP bottom (l.map sdV))) = c4V top bottom ss from rfl]
  dsimp only [List.set]
  generalize hz : (nzP (c4V top bottom ss)).map (·.2) = bs
  walk_at "z"
  refine ex1_if (et_imp (PB := fun k Θ' => Θ' = Θ ∧ k = nrI bs) (et_bo (ew_or (et_cmp (ec_eqD ?_)))) ?_)
  · walk_at "zv"
    refine ⟨_, _, toP_ints _, toP_nil, shp_ints _, rfl, ?_⟩
    rw [eqv_nil, List.isEmpty_map]
    refine ⟨_, rfl, ?_⟩
    refine br_b (fun e2 => ?_) (fun e2 => ?_)
    · exact ⟨rfl, by unfold nrI; rw [e2]; rfl⟩
    have hpos : 0 < bs.length := by
      cases bs with
      | nil => cases e2
      | cons b bs => simp
    walk_at "zv"
    refine ⟨hpos, fun m hm1 hm2 => ?_⟩
    walk_at "zv"
    refine br_dec (fun e3 => ?_) (fun e3 => ?_)
    · walk_at "zv"
      refine ⟨hpos, fun u hu1 hu2 => ?_⟩
      refine ⟨_, rfl, rfl, ?_⟩
      unfold nrI
      rw [e2, List.any_eq_true.mpr ⟨m, hm1, decide_eq_true e3⟩]
      by_cases e4 : 0 ≤ u
      · rw [List.any_eq_true.mpr ⟨u, hu1, decide_eq_true e4⟩, decide_eq_true e4]; rfl
      · rw [List.any_eq_false.mpr fun x hx => by have := hu2 x hx; simp; omega, decide_eq_false e4]; rfl
    · refine ⟨rfl, ?_⟩
      unfold nrI
      rw [e2, List.any_eq_false.mpr fun x hx => by have := hm2 x hx; simp; omega]; rfl
  rintro k Θ' ⟨rfl, rfl⟩
  have hn : nrP top bottom ss = (nrI bs || ((pointsP ss (ss.map suppP)).any fun p => decide (atP bottom p = 0))) := by unfold nrP; rw [hz]
  rw [hn] at h
  refine br_b (fun e1 => ?_) (fun e1 => ?_)
  · walk_at "zz"
    rw [e1] at h
    exact fin h
  rw [e1, Bool.false_or] at h
  walk_at "zv"
  walk_at "zset"
  refine ei_lst ?_
  walk_at "zv"
  refine ⟨sz (by rw [List.length_map]; have := shape_len hs; omega), ?_⟩
  refine lcT_fm (fun d => some (wtsD (suppP (unRow d)))) (by kernel_rfl) (by walk_at "zat") (by kernel_rfl) (by kernel_rfl) (by intro _; walk_at "zs") ?_ ?_
  · intro d hd
    obtain ⟨r, hr, rfl⟩ := List.mem_map.mp hd
    walk_at "zv"
    refine ⟨_, ⟨r, rfl, (c.g r hr).k, rfl⟩, ?_⟩
    exact ⟨rfl, by rw [unRow_row]⟩
  rw [List.nil_append, fm_supp]
  dsimp only [List.set]
  walk_at "z"
  refine ex1_ret (ev_cmp (ec_neD ?_))
  have ps := supp_ps hs c.g
  obtain ⟨pn, pk⟩ := pts_k hs ps
  walk_at "zlc"
  refine ei_lst ?_
  walk_at "zv"
  refine ⟨_, ⟨ss, ss.map suppP, rfl, ps, rfl⟩, ?_⟩
  walk_at "zv"
  refine ⟨sz (by rw [List.length_map]; omega), ?_⟩
  refine lcT_fm (fun d => if atP bottom (unVec d) = 0 then some d else none) (by kernel_rfl) (by walk_at "zat") (by kernel_rfl) (by kernel_rfl) (by intro _; walk_at "zs") ?_ ?_
  · intro d hd
    obtain ⟨l, hl, rfl⟩ := List.mem_map.mp hd
    refine ets_one (et_cmp (ec_eqI ?_))
    walk_at "zv"
    refine ⟨_, ⟨n, bottom, l, rfl, ⟨sb, pk l hl⟩, rfl⟩, ?_⟩
    walk_at "zv"
    refine br_dec (fun e => ?_) (fun e => ?_)
    · walk_at "zv"
      rw [unVec_vec]
      exact if_pos e
    · exact ⟨rfl, by rw [unVec_vec]; exact if_neg e⟩
  rw [List.nil_append, fm_bz]
  walk_at "zv"
  refine ⟨_, _, toP_vecs _, toP_nil, shaped_by (shp_faces _), rfl, ?_⟩
  rw [eqv_nil, List.isEmpty_map, filter_any2]
  exact fin h
end
/-! ## K95T -/
section
variable {P : Program} {w : World} {K : Frag} {mg : Str → Option Value} {base : Heap}
theorem supp_len {r : Rw} (hr : RowK r) : (suppP r).length ≤ 3 := by
  cases hr with
  | one p q => exact Nat.le_of_ble_eq_true rfl
  | two s t => obtain ⟨p, q, b⟩ := s; obtain ⟨p2, q2, b2⟩ := t; cases b <;> cases b2 <;> exact Nat.le_of_ble_eq_true rfl
abbrev spWts : SpD := fun ds Θ Post => ∃ (p : Addr) (o : Ob) (n : Nat) (r : Rw), ds = [.obj p, rowD r] ∧ RowK r ∧ Θ p = some o ∧ PurO o n ∧ n ≤ 900 ∧ ∀ (x y : Int) (o' : Ob), 0 ≤ x → x < 9 → 0 ≤ y → y < 9 → PurO o' (n + 2) → Post (wtsD (weightsP r x y)) (updS Θ p o')
theorem mono_wts : Mono spWts := fun _ _ _ _ q ⟨p, o, n, r, e, h0, h1, h2, h3, h⟩ => ⟨p, o, n, r, e, h0, h1, h2, h3, fun x y o' a b c d f => q _ _ (h x y o' a b c d f)⟩
theorem cutA1 {x y : Int} : cutD [.int x, .int y] none (some (([Da.non].length : Nat) : Int)) = [.int x] := by kernel_rfl
theorem cutA2 {x y : Int} : cutD [.int x, .int y] none (some (([Da.non, Da.non].length : Nat) : Int)) = [.int x, .int y] := by kernel_rfl
set_option maxHeartbeats 2000000 in
theorem ok_law_weights (T : Txt K mg) : Fn P w K mg base 2 "_law_weights" spWts := by
  have F1 : Fn P w K mg base 1 "_law_take" spTake := ok_law_take T
  have F2 : Fn P w K mg base 1 "_law_supports" spSupp := ok_law_supports T
  obtain ⟨fd, F⟩ := T.says.def_ i_law_weights (d := d_law_weights) rfl
  refine fn_ok F (T.glo "_law_weights" (by kernel_rfl)) (F.bindsN fun _ _ _ _ _ _ us hl => match us, hl with | [_, _], _ => rfl) sc_law_weights (mono_wts) ?_
  rintro ds Θ Post ⟨p, o, n, r, rfl, hr, hp, ho, hn, h⟩
  refine ⟨rfl, ?_⟩
  show ex _ _ [some (.obj p), some (rowD r), none, none, none] _ _
  walk_at "zz"
  refine ⟨⟨by decide, by decide, by decide⟩, ?_⟩
  walk_at "zz"
  refine ⟨p, o, n, 9, rfl, hp, ho, by omega, by decide, by decide, fun x o1 x0 x1 ho1 => ?_⟩
  have hp1 : updS Θ p o1 p = some o1 := updS_same
  walk_at "zz"
  refine ⟨p, o1, n + 1, 9, rfl, hp1, ho1, by omega, by decide, by decide, fun y o2 y0 y1 ho2 => ?_⟩
  rw [updS_updS]
  repeat (first | walk_at "zq" | ((with_reducible show ex1 _ (Stmt.Assign _ _ _) _ _ _); walk_at "z"))
  refine ex1_ret (ev_catZ ?_)
  have h2 := h x y o2 x0 x1 y0 y1 (ho2.le (by omega))
  cases hr with
  | one a b =>
    have hr : RowK [⟨a, b, true⟩] := .one a b
    show ev _ _ [some (.obj p), some (.lst [sdD a b true]), _, _, _] _ _
    walk_at "zlc"
    refine ei_lst ?_
    walk_at "zz"
    refine ⟨_, ⟨_, rfl, hr, rfl⟩, ?_⟩
    walk_at "zz"
    refine ⟨by unfold CatOk; rw [List.length_map]; simp only [List.length_cons, List.length_nil]; have := supp_len hr; exact Nat.le_of_lt (sz (by omega)), ?_⟩
    rw [show wtsD (weightsP [⟨a, b, true⟩] x y) = .lst ([.lst [.int 1], .lst [.int 1], .lst [.int (10 ^ Int.toNat 60)], .lst [.int (1 + x)]] ++ List.map kL (suppP [⟨a, b, true⟩])) by unfold wtsD weightsP; rw [List.map_append]; rfl] at h2
    exact fin h2
  | two s t =>
    have hr : RowK [s, t] := .two s t
    show ev _ _ [some (.obj p), some (.lst [s.D, t.D]), _, _, _] _ _
    walk_at "zlc"
    refine ei_lst ?_
    walk_at "zz"
    refine ⟨_, ⟨_, rfl, hr, rfl⟩, ?_⟩
    walk_at "zz"
    refine ⟨by unfold CatOk; rw [List.length_map]; simp only [List.length_cons, List.length_nil]; have := supp_len hr; exact Nat.le_of_lt (sz (by omega)), ?_⟩
    rw [show wtsD (weightsP [s, t] x y) = .lst ([.lst [.int 1, .int 1], .lst [.int 1, .int (10 ^ Int.toNat 60)], .lst [.int (10 ^ Int.toNat 60), .int 1], .lst [.int (1 + x), .int (1 + y)]] ++ List.map kL (suppP [s, t])) by unfold wtsD weightsP; rw [List.map_append]; rfl] at h2
    exact fin h2
abbrev spCompared : SpD := pureSp fun ds d => ∃ v e : Int × Int, ds = [frD v, frD e] ∧ (Bd 680 v.1 ∧ Bd 680 v.2 ∧ Bd 680 e.1 ∧ Bd 680 e.2) ∧ d = .int (cmpP v e)
set_option maxHeartbeats 1000000 in
theorem ok_law_compared (T : Txt K mg) : Fn P w K mg base 1 "_law_compared" spCompared := by
  obtain ⟨fd, F⟩ := T.says.def_ i_law_compared (d := d_law_compared) rfl
  refine fn_ok F (T.glo "_law_compared" (by kernel_rfl)) (F.bindsN fun _ _ _ _ _ _ us hl => match us, hl with | [_, _], _ => rfl) sc_law_compared (mono_pure _) ?_
  rintro ds Θ Post ⟨d, ⟨⟨a, b⟩, ⟨c, e⟩, rfl, ⟨h1, h2, h3, h4⟩, rfl⟩, h⟩
  refine ⟨rfl, ?_⟩
  show ex _ _ [some (frD (a, b)), some (frD (c, e)), none, none] _ _
  replace h1 : Bd 680 a := h1
  replace h2 : Bd 680 b := h2
  replace h3 : Bd 680 c := h3
  replace h4 : Bd 680 e := h4
  have h5 : Bd 680 (-a) := by unfold Bd at *; omega
  have h6 : Bd 680 (-b) := by unfold Bd at *; omega
  walk_at "zz"
  refine br_dec (fun hn => ?_) (fun hn => ?_)
  · walk_at "zz"
    rw [show cmpP (a, b) (c, e) = -a * e - c * -b from if_pos hn] at h
    exact fin h
  · walk_at "zz"
    rw [show cmpP (a, b) (c, e) = a * e - c * b from if_neg hn] at h
    exact fin h
theorem abs_bd {i : Int} {n : Nat} (h : Bd n i) : Bd n (if i < 0 then -i else i) := by
  unfold Bd at *
  split <;> omega
theorem neg_bd {i : Int} {n : Nat} (h : Bd n i) : Bd n (-i) := by unfold Bd at *; omega
theorem cmp_bd {v e : Int × Int} (h1 : Bd 680 v.1) (h2 : Bd 680 v.2) (h3 : Bd 680 e.1) (h4 : Bd 680 e.2) : Bd 1400 (cmpP v e) := by
  unfold cmpP
  split
  · rw [Int.sub_eq_add_neg]
    exact bd_le (bd_add (bd_mul (neg_bd h1) h4) (neg_bd (bd_mul h3 (neg_bd h2)))) (by decide)
  · rw [Int.sub_eq_add_neg]
    exact bd_le (bd_add (bd_mul h1 h4) (neg_bd (bd_mul h3 h2))) (by decide)
def valsD (l : List (Int × Int)) : Da := .lst (l.map frD)
structure EndsK (lo : Int × Int) (li : Bool) (hi : Int × Int) (hj : Bool) (vals held : List (Int × Int)) : Prop where
  g : GoodE lo li hi hj vals held
  v : ∀ v, v ∈ vals → Bd 680 v.1 ∧ Bd 680 v.2
  h : ∀ v, v ∈ held → Bd 680 v.1 ∧ Bd 680 v.2
  lo : Bd 680 lo.1 ∧ Bd 680 lo.2
  hi : Bd 680 hi.1 ∧ Bd 680 hi.2
  nv : vals.length ≤ 1000
  nh : held.length ≤ 1000
abbrev spEnds : SpD := pureSp fun ds d => ∃ (lo : Int × Int) (li : Bool) (hi : Int × Int) (hj : Bool) (vals held : List (Int × Int)), ds = [resD (some (lo, li, hi, hj)), valsD vals, valsD held] ∧ EndsK lo li hi hj vals held ∧ d = .bl true
theorem fm_zero (l : List (Int × Int)) (e : Int × Int) : (l.map frD).filterMap (fun d => if cmpP (unFr d) e = 0 then some d else none) = (l.filter fun v => decide (cmpP v e = 0)).map frD := by
  induction l with
  | nil => rfl
  | cons v l ih =>
    rw [List.map_cons, List.filterMap_cons, ih]
    by_cases q : cmpP v e = 0
    · rw [if_pos (show cmpP (unFr (frD v)) e = 0 from q), List.filter_cons_of_pos (by simpa using q)]; rfl
    · rw [if_neg (show ¬ cmpP (unFr (frD v)) e = 0 from q), List.filter_cons_of_neg (by simpa using q)]
theorem filter_any (l : List (Int × Int)) (p : Int × Int → Bool) : (!(l.filter p).isEmpty) = l.any p := by
  induction l with
  | nil => rfl
  | cons v l ih =>
    rw [List.any_cons]
    cases e : p v with
    | true => rw [List.filter_cons_of_pos e]; rfl
    | false => rw [List.filter_cons_of_neg (by rw [e]; decide), ih]; rfl
theorem fm_near (l : List (Int × Int)) (e : Int × Int) : (l.map frD).filterMap (fun d => some (Da.bl (decide (absI (cmpP (unFr d) e) * 10 ^ 30 ≤ absI (unFr d).2 * e.2)))) = (l.map fun v => decide (absI (cmpP v e) * 10 ^ 30 ≤ absI v.2 * e.2)).map Da.bl := by
  rw [List.filterMap_map, List.map_map, ← List.filterMap_eq_map]
  rfl
theorem flat_bls (is : List Bool) : (is.map Da.bl).all flatD = true := by
  rw [List.all_map, List.all_eq_true]
  intro i _
  rfl
theorem inV_bls (is : List Bool) : inV (vD (.bl true)) ((is.map Da.bl).map vD) = is.any id := by
  unfold inV
  rw [List.map_map, List.any_map]
  congr 1
  funext b
  cases b <;> rfl
set_option maxHeartbeats 2000000 in
theorem ok_law_ends_right (T : Txt K mg) : Fn P w K mg base 2 "_law_ends_right" spEnds := by
  have F1 : Fn P w K mg base 1 "_law_compared" spCompared := ok_law_compared T
  obtain ⟨fd, F⟩ := T.says.def_ i_law_ends_right (d := d_law_ends_right) rfl
  refine fn_ok F (T.glo "_law_ends_right" (by kernel_rfl)) (F.bindsN fun _ _ _ _ _ _ us hl => match us, hl with | [_, _, _], _ => rfl) sc_law_ends_right (mono_pure _) ?_
  rintro ds Θ Post ⟨d, ⟨lo, li, hi, hj, vals, held, rfl, k, rfl⟩, h⟩
  refine ⟨rfl, ?_⟩
  show ex _ _ [some (.tup [frD lo, .bl li, frD hi, .bl hj]), some (valsD vals), some (valsD held), none, none, none, none, none, none, none, none, none, none] _ _
  obtain ⟨l1, l2⟩ := k.lo
  obtain ⟨h1, h2⟩ := k.hi
  have g1 := k.g.le
  walk_at "zz"
  refine ex1_for (fun ds m Γ1 Θ1 => ∃ x1 x2 x3 x4 x5 x6, Γ1 = [some (.tup [frD lo, .bl li, frD hi, .bl hj]), some (valsD vals), some (valsD held), some (frD lo), some (.bl li), some (frD hi), some (.bl hj), x1, x2, x3, x4, x5, x6] ∧ Θ1 = Θ) ?_
  refine ei_lst ?_
  walk_at "z"
  refine ⟨_, .inl rfl, ⟨_, _, _, _, _, _, rfl, rfl⟩, ?_, ?_⟩
  · rintro m d Γ1 Θ1 hd ⟨x1, x2, x3, x4, x5, x6, rfl, rfl⟩
    rw [List.getElem?_map] at hd
    cases hv : vals[m]? with
    | none => rw [hv] at hd; cases hd
    | some v =>
    rw [hv] at hd
    cases hd
    have hm := List.mem_of_getElem? hv
    obtain ⟨a1, a2, a3, a4⟩ := k.g.all v hm
    obtain ⟨b1, b2⟩ := k.v v hm
    walk_at "zz"
    refine ⟨_, ⟨v, lo, rfl, ⟨b1, b2, l1, l2⟩, rfl⟩, ?_⟩
    walk_at "zz"
    refine ⟨_, ⟨v, hi, rfl, ⟨b1, b2, h1, h2⟩, rfl⟩, ?_⟩
    walk_at "zz"
    refine br_dec (fun e => ?_) (fun e => ?_)
    · have e2 := a3 e
      subst e2
      walk_at "zz"
      refine br_dec (fun e => ?_) (fun e => ?_)
      · have e2 := a4 e
        subst e2
        walk_at "zz"
        exact ⟨_, _, _, _, _, _, rfl, rfl⟩
      · walk_at "zz"
        exact ⟨_, _, _, _, _, _, rfl, rfl⟩
    · walk_at "zz"
      refine br_dec (fun e => ?_) (fun e => ?_)
      · have e2 := a4 e
        subst e2
        walk_at "zz"
        exact ⟨_, _, _, _, _, _, rfl, rfl⟩
      · walk_at "zz"
        exact ⟨_, _, _, _, _, _, rfl, rfl⟩
  · rintro Γ1 Θ1 ⟨x1, x2, x3, x4, x5, x6, rfl, rfl⟩
    walk_at "zv"
    refine ex1_forU (ei_lst ?_)
    walk_at "zv"
    refine ex1_if (et_cmp (ec_neS ?_))
    walk_at "z"
    walk_at "z"
    walk_at "zlc"
    refine ei_lst ?_
    walk_at "zz"
    refine ⟨sz (by rw [List.length_map]; have := k.nh; omega), ?_⟩
    refine lcT_fm (fun d => if cmpP (unFr d) lo = 0 then some d else none) (by kernel_rfl) (by walk_at "zat") (by kernel_rfl) (by kernel_rfl) (by intro _; walk_at "zs") ?_ ?_
    · intro d hd
      obtain ⟨v, hv, rfl⟩ := List.mem_map.mp hd
      obtain ⟨b1, b2⟩ := k.h v hv
      walk_at "zz"
      refine ⟨_, ⟨v, lo, rfl, ⟨b1, b2, l1, l2⟩, rfl⟩, ?_⟩
      walk_at "zz"
      refine br_dec (fun e => ?_) (fun e => ?_)
      · walk_at "zz"
        exact if_pos e
      · exact ⟨rfl, if_neg e⟩
    rw [List.nil_append, fm_zero held lo]
    walk_at "zz"
    refine ⟨_, _, toP_fracs _, toP_nil, shaped_by (shp_fac _), rfl, ?_⟩
    rw [show facP (held.filter fun v => decide (cmpP v lo = 0)) = .list ((held.filter fun v => decide (cmpP v lo = 0)).map frP) from rfl, eqv_nil, List.isEmpty_map, filter_any, k.g.hl]
    walk_at "zz"
    walk_at "zset"
    refine ei_lst ?_
    walk_at "zz"
    refine ⟨sz (by rw [List.length_map]; have := k.nv; omega), ?_⟩
    refine lcT_fm (fun d => some (.bl (decide (absI (cmpP (unFr d) lo) * 10 ^ 30 ≤ absI (unFr d).2 * lo.2)))) (by kernel_rfl) (by walk_at "zat") (by kernel_rfl) (by kernel_rfl) (by intro _; walk_at "zs") ?_ ?_
    · intro d hd
      obtain ⟨v, hv, rfl⟩ := List.mem_map.mp hd
      obtain ⟨b1, b2⟩ := k.v v hv
      have c1 : Bd 1400 (if cmpP v lo < 0 then -cmpP v lo else cmpP v lo) := abs_bd (cmp_bd b1 b2 l1 l2)
      have c2 : Bd 680 (if v.2 < 0 then -v.2 else v.2) := abs_bd b2
      have c3 : Bd 200 (10 ^ Int.toNat 30) := by unfold Bd; decide
      walk_at "zz"
      refine ⟨_, ⟨v, lo, rfl, ⟨b1, b2, l1, l2⟩, rfl⟩, ?_⟩
      walk_at "zz"
      refine ⟨⟨by decide, by decide, by decide⟩, ?_⟩
      walk_at "zz"
      rfl
    rw [List.nil_append, fm_near vals lo]
    dsimp only [List.set]
    walk_at "z"
    refine ex1_if (et_cmp (ec_notIn rfl ?_))
    walk_at "zz"
    refine ⟨flat_bls _, ?_⟩
    rw [inV_bls, List.any_map, show ((id ∘ fun v => decide (absI (cmpP v lo) * 10 ^ 30 ≤ absI v.2 * lo.2)) : Int × Int → Bool) = fun v => decide (absI (cmpP v lo) * 10 ^ 30 ≤ absI v.2 * lo.2) from rfl, k.g.nl]
    walk_at "zv"
    refine ex1_if (et_cmp (ec_neS ?_))
    walk_at "z"
    walk_at "z"
    walk_at "zlc"
    refine ei_lst ?_
    walk_at "zz"
    refine ⟨sz (by rw [List.length_map]; have := k.nh; omega), ?_⟩
    refine lcT_fm (fun d => if cmpP (unFr d) hi = 0 then some d else none) (by kernel_rfl) (by walk_at "zat") (by kernel_rfl) (by kernel_rfl) (by intro _; walk_at "zs") ?_ ?_
    · intro d hd
      obtain ⟨v, hv, rfl⟩ := List.mem_map.mp hd
      obtain ⟨b1, b2⟩ := k.h v hv
      walk_at "zz"
      refine ⟨_, ⟨v, hi, rfl, ⟨b1, b2, h1, h2⟩, rfl⟩, ?_⟩
      walk_at "zz"
      refine br_dec (fun e => ?_) (fun e => ?_)
      · walk_at "zz"
        exact if_pos e
      · exact ⟨rfl, if_neg e⟩
    rw [List.nil_append, fm_zero held hi]
    walk_at "zz"
    refine ⟨_, _, toP_fracs _, toP_nil, shaped_by (shp_fac _), rfl, ?_⟩
    rw [show facP (held.filter fun v => decide (cmpP v hi = 0)) = .list ((held.filter fun v => decide (cmpP v hi = 0)).map frP) from rfl, eqv_nil, List.isEmpty_map, filter_any, k.g.hh]
    walk_at "zz"
    walk_at "zset"
    refine ei_lst ?_
    walk_at "zz"
    refine ⟨sz (by rw [List.length_map]; have := k.nv; omega), ?_⟩
    refine lcT_fm (fun d => some (.bl (decide (absI (cmpP (unFr d) hi) * 10 ^ 30 ≤ absI (unFr d).2 * hi.2)))) (by kernel_rfl) (by walk_at "zat") (by kernel_rfl) (by kernel_rfl) (by intro _; walk_at "zs") ?_ ?_
    · intro d hd
      obtain ⟨v, hv, rfl⟩ := List.mem_map.mp hd
      obtain ⟨b1, b2⟩ := k.v v hv
      have c1 : Bd 1400 (if cmpP v hi < 0 then -cmpP v hi else cmpP v hi) := abs_bd (cmp_bd b1 b2 h1 h2)
      have c2 : Bd 680 (if v.2 < 0 then -v.2 else v.2) := abs_bd b2
      have c3 : Bd 200 (10 ^ Int.toNat 30) := by unfold Bd; decide
      walk_at "zz"
      refine ⟨_, ⟨v, hi, rfl, ⟨b1, b2, h1, h2⟩, rfl⟩, ?_⟩
      walk_at "zz"
      refine ⟨⟨by decide, by decide, by decide⟩, ?_⟩
      walk_at "zz"
      rfl
    rw [List.nil_append, fm_near vals hi]
    dsimp only [List.set]
    walk_at "z"
    refine ex1_if (et_cmp (ec_notIn rfl ?_))
    walk_at "zz"
    refine ⟨flat_bls _, ?_⟩
    rw [inV_bls, List.any_map, show ((id ∘ fun v => decide (absI (cmpP v hi) * 10 ^ 30 ≤ absI v.2 * hi.2)) : Int × Int → Bool) = fun v => decide (absI (cmpP v hi) * 10 ^ 30 ≤ absI v.2 * hi.2) from rfl, k.g.nh]
    walk_at "zv"
    walk_at "zz"
    exact fin h
end
/-! ## K95X -/
section
variable {P : Program} {w : World} {K : Frag} {mg : Str → Option Value} {base : Heap}
/-! what repr writes of sides and forms -/
def sdPy (s : Sd) : PyData := .tuple [.tuple [.int s.p, .int s.q], .bool s.b]
def rowPy (r : Rw) : PyData := .list (r.map sdPy)
theorem toP_sd (s : Sd) : toP s.D = some (sdPy s) := by
  obtain ⟨p, q, b⟩ := s
  show toP (.tup [.tup [.int p, .int q], .bl b]) = _
  simp [toP, toPs, sdPy]
theorem toP_row (r : Rw) : toP (rowD r) = some (rowPy r) := by
  unfold rowD
  rw [toP, toPs_map toP_sd]; rfl
theorem toP_sides (ss : List Rw) : toP (sidesD ss) = some (.list (ss.map rowPy)) := by
  unfold sidesD
  rw [toP, toPs_map toP_row]; rfl
theorem toP_form (f : List Int) : toP (formD f) = some (.list (f.map PyData.int)) := toP_ints f
theorem sh_sd {s : Sd} (h : Sd2 s) : Sh 2 7629 (sdPy s) := by
  obtain ⟨a, b⟩ := h
  have h1 : Bd 1900 s.p := bd_le (m := 3) (by unfold Bd; omega) (by decide)
  have h2 : Bd 1900 s.q := bd_le (m := 3) (by unfold Bd; omega) (by decide)
  have t : Sh 1 3811 (.tuple [.int s.p, .int s.q]) := sh_tup (n := 0) (N := 1902) (ds := [.int s.p, .int s.q]) (k := 2) (Nat.le_refl _) fun d hd => by
    rcases List.mem_cons.mp hd with rfl | hd
    · exact sh_int h1
    · rcases List.mem_cons.mp hd with rfl | hd
      · exact sh_int h2
      · cases hd
  exact sh_tup (n := 1) (N := 3811) (ds := [.tuple [.int s.p, .int s.q], .bool s.b]) (k := 2) (Nat.le_refl _) fun d hd => by
    rcases List.mem_cons.mp hd with rfl | hd
    · exact t
    · rcases List.mem_cons.mp hd with rfl | hd
      · exact sh_bl.le (by decide) (by decide)
      · cases hd
theorem RowG.len {r : Rw} (h : RowG r) : r.length ≤ 2 := by cases h <;> exact Nat.le_of_ble_eq_true rfl
theorem sh_row {r : Rw} (h : RowG r) : Sh 3 15264 (rowPy r) := sh_list (n := 2) (N := 7629) (k := 2) (by rw [List.length_map]; exact h.len) fun d hd => by
  obtain ⟨s, hs, rfl⟩ := List.mem_map.mp hd
  exact sh_sd (h.s2 s hs)
theorem sh_sides {n : Nat} {ss : List Rw} (h : Shape n ss) (g : ∀ r, r ∈ ss → RowG r) : Sh 4 30534 (.list (ss.map rowPy)) := sh_list (n := 3) (N := 15264) (k := 2) (by rw [List.length_map]; exact shape_len h) fun d hd => by
  obtain ⟨r, hr, rfl⟩ := List.mem_map.mp hd
  exact sh_row (g r hr)
theorem sh_form {n : Nat} {f : List Int} (h : FormB n f) : Sh 1 7618 (.list (f.map PyData.int)) := sh_list (n := 0) (N := 1902) (k := 4) (by
  rw [List.length_map]
  cases h.1 <;> exact Nat.le_of_ble_eq_true rfl) fun d hd => by
  obtain ⟨x, hx, rfl⟩ := List.mem_map.mp hd
  have := h.2 x hx
  exact sh_int (bd_le (m := 60) (by unfold Bd; omega) (by decide))
theorem size_ok {n : Nat} (h : n ≤ 100000) : n ≤ sizeLine := Nat.le_trans h (by decide)
/-! the draw of the sides -/
abbrev spSides : SpD := fun ds Θ Post => ∃ (p : Addr) (o : Ob) (k : Nat), ds = [.obj p] ∧ Θ p = some o ∧ PurO o k ∧ k ≤ 900 ∧ ∀ (r : Rw) (o' : Ob), RowG r → PurO o' (k + 3) → Post (rowD r) (updS Θ p o')
theorem mono_sides : Mono spSides := fun _ _ _ _ q ⟨p, o, k, e, h1, h2, h3, h⟩ => ⟨p, o, k, e, h1, h2, h3, fun r o' a b => q _ _ (h r o' a b)⟩
theorem kd_at {d : Int} (h0 : 0 ≤ d) (h1 : d < 3) : ∃ k : Kd, atI [Da.str "floor", Da.str "ceil", Da.str "near"] d = some (.str k.word) := by
  have : d = 0 ∨ d = 1 ∨ d = 2 := by omega
  rcases this with rfl | rfl | rfl
  · exact ⟨.fl, rfl⟩
  · exact ⟨.ce, rfl⟩
  · exact ⟨.ne, rfl⟩
abbrev someD : List Da := [kL [3], kL [3, 5], kL [3, 2], kL [3, 1], kL [3, -2], kL [0, -3, -2]]
theorem ts_at {d : Int} (h0 : 0 ≤ d) (h1 : d < 6) : ∃ ts, ts ∈ someT ∧ atI someD d = some (formD ts) := by
  have : d = 0 ∨ d = 1 ∨ d = 2 ∨ d = 3 ∨ d = 4 ∨ d = 5 := by omega
  rcases this with rfl | rfl | rfl | rfl | rfl | rfl
  · exact ⟨[3], by simp [someT], rfl⟩
  · exact ⟨[3, 5], by simp [someT], rfl⟩
  · exact ⟨[3, 2], by simp [someT], rfl⟩
  · exact ⟨[3, 1], by simp [someT], rfl⟩
  · exact ⟨[3, -2], by simp [someT], rfl⟩
  · exact ⟨[0, -3, -2], by simp [someT], rfl⟩
theorem last_at {ts : List Int} (h : ts ∈ someT) : atI (ts.map Da.int) (-1) = some (.int (lastI ts)) := by
  simp only [someT, List.mem_cons, List.not_mem_nil, or_false] at h
  rcases h with rfl | rfl | rfl | rfl | rfl | rfl <;> rfl
theorem adj1_last (k : Kd) {ts : List Int} (h : ts ∈ someT) : atI ((adj1 k ts).map Da.int) (-1) = some (.int (lastI (adj1 k ts))) := by
  simp only [someT, List.mem_cons, List.not_mem_nil, or_false] at h
  cases k <;> rcases h with rfl | rfl | rfl | rfl | rfl | rfl <;> rfl
set_option maxHeartbeats 2000000 in
theorem ok_law_sides (T : Txt K mg) : Fn P w K mg base 6 "_law_sides" spSides := by
  have F1 : Fn P w K mg base 1 "_law_take" spTake := ok_law_take T
  have F2 : Fn P w K mg base 5 "sides_of" spSidesOf := ok_sides_of T
  have F3 : Fn P w K mg base 4 "cone" spCone := ok_cone T
  obtain ⟨fd, F⟩ := T.says.def_ i_law_sides (d := d_law_sides) rfl
  refine fn_ok F (T.glo "_law_sides" (by kernel_rfl)) (F.bindsN fun _ _ _ _ _ _ us hl => match us, hl with | [_], _ => rfl) sc_law_sides (mono_sides) ?_
  rintro ds Θ Post ⟨p, o, n, rfl, hp, ho, hn, h⟩
  refine ⟨rfl, ?_⟩
  show ex _ _ [some (.obj p), none, none, none, none, none, none] _ _
  walk_at "zz"
  refine ⟨p, o, n, 3, rfl, hp, ho, by omega, by decide, by decide, fun d1 o1 d10 d11 ho1 => ?_⟩
  have hp1 : updS Θ p o1 p = some o1 := updS_same
  obtain ⟨k, hk⟩ := kd_at d10 d11
  refine ⟨_, _, _, seqL, rfl, hk, ?_⟩
  walk_at "zz"
  refine ⟨p, o1, n + 1, 6, rfl, hp1, ho1, by omega, by decide, by decide, fun d2 o2 d20 d21 ho2 => ?_⟩
  rw [updS_updS]
  have hp2 : updS Θ p o2 p = some o2 := updS_same
  obtain ⟨ts, hts, ht⟩ := ts_at d20 d21
  refine ⟨_, _, _, seqL, rfl, ht, ?_⟩
  walk_at "zv"
  refine ex1_seq (fun Γ' Θ' => Γ' = [some (.obj p), some (.str k.word), some (.lst someD), some (formD (adj1 k ts)), none, none, none] ∧ Θ' = updS Θ p o2) ?_ ?_
  · refine ex1_if (et_imp (PB := fun c Θ' => Θ' = updS Θ p o2 ∧ c = c1P k (lastI ts)) (et_bo (ew_or (et_bo (ew_and (et_cmp (ec_neT ?_)))))) ?_)
    · walk_at "zv"
      refine br_ndec (fun e1 => ?_) (fun e1 => ?_)
      · walk_at "zv"
        refine ⟨_, _, _, seqL, rfl, last_at hts, ?_⟩
        walk_at "zv"
        refine br_dec (fun e2 => ?_) (fun e2 => ?_)
        · walk_at "zv"
          cases k
          · exact (decide_eq_true e2).symm
          · show true = (decide (lastI ts < 2) || decide (lastI ts = 1))
            rw [decide_eq_true e2]; rfl
          · exact absurd rfl e1
        · walk_at "zv"
          refine br_dec (fun e3 => ?_) (fun e3 => ?_)
          · walk_at "zv"
            refine ⟨_, _, _, seqL, rfl, last_at hts, ?_⟩
            walk_at "zv"
            cases k
            · exact absurd e3 (by decide +kernel)
            · show decide (lastI ts = 1) = (decide (lastI ts < 2) || decide (lastI ts = 1))
              rw [decide_eq_false e2]; rfl
            · exact absurd rfl e1
          · walk_at "zv"
            cases k
            · exact (decide_eq_false e2).symm
            · exact absurd rfl e3
            · exact absurd rfl e1
      · walk_at "zv"
        refine br_dec (fun e3 => ?_) (fun e3 => ?_)
        · rw [e1] at e3
          exact absurd e3 (by decide +kernel)
        · walk_at "zv"
          cases k
          · exact absurd e1 (by decide +kernel)
          · exact absurd rfl e3
          · rfl
    rintro c Θ' ⟨rfl, rfl⟩
    refine br_b (fun e1 => ?_) (fun e1 => ?_)
    · walk_at "zv"
      refine ex1_asg ?_
      walk_at "zv"
      have ea : adj1 k ts = if k.word = "floor" then [-4, 1] else [-4, 3] := by
        unfold adj1
        rw [if_pos e1]
        cases k
        · rfl
        · exact (if_neg (by decide +kernel)).symm
        · exact (if_neg (by decide +kernel)).symm
      by_cases e2 : k.word = "floor"
      · refine ⟨_, _, _, seqL, rfl, (show atI _ _ = some (.lst [.int (-4), .int 1]) by rw [decide_eq_true e2]; rfl), ?_⟩
        walk_at "zv"
        rw [ea, if_pos e2]
        exact ⟨rfl, rfl⟩
      · refine ⟨_, _, _, seqL, rfl, (show atI _ _ = some (.lst [.int (-4), .int 3]) by rw [decide_eq_false e2]; rfl), ?_⟩
        walk_at "zv"
        rw [ea, if_neg e2]
        exact ⟨rfl, rfl⟩
    · walk_at "zv"
      have ea : adj1 k ts = ts := by unfold adj1; rw [if_neg (by rw [e1]; decide)]
      rw [ea]
      exact ⟨rfl, rfl⟩
  rintro _ _ ⟨rfl, rfl⟩
  walk_at "zv"
  refine ex1_seq (fun Γ' Θ' => Γ' = [some (.obj p), some (.str k.word), some (.lst someD), some (formD (adjP k ts)), none, none, none] ∧ Θ' = updS Θ p o2) ?_ ?_
  · refine ex1_if (et_imp (PB := fun c Θ' => Θ' = updS Θ p o2 ∧ adjP k ts = if c then [0, 2] else adj1 k ts) (et_bo (ew_and (et_cmp (ec_eqT ?_)))) ?_)
    · walk_at "zv"
      refine br_dec (fun e1 => ?_) (fun e1 => ?_)
      · have ek : k = .ne := by
          revert e1
          cases k <;> first | (intro _; rfl) | (intro e; exact absurd e (by decide +kernel))
        subst ek
        walk_at "zv"
        refine ⟨_, _, _, seqL, rfl, adj1_last _ hts, ?_⟩
        walk_at "zv"
        show (if lastI (adj1 .ne ts) = 1 then [0, 2] else adj1 .ne ts) = _
        by_cases e2 : lastI (adj1 .ne ts) = 1
        · rw [if_pos e2, decide_eq_true e2]; rfl
        · rw [if_neg e2, decide_eq_false e2]; rfl
      · walk_at "zv"
        cases k
        · rfl
        · rfl
        · exact absurd rfl e1
    rintro c Θ' ⟨rfl, ec⟩
    refine br_b (fun e1 => ?_) (fun e1 => ?_)
    · subst e1
      rw [if_pos rfl] at ec
      walk_at "zz"
      rw [ec]
      exact ⟨rfl, rfl⟩
    · subst e1
      rw [if_neg (by decide)] at ec
      walk_at "zv"
      rw [ec]
      exact ⟨rfl, rfl⟩
  rintro _ _ ⟨rfl, rfl⟩
  obtain ⟨leg, rg⟩ := adj_legal k ts hts
  generalize hts2 : adjP k ts = us at leg rg
  walk_at "zv"
  refine ex1_seq (fun Γ' Θ' => ∃ (e : Bool) (o3 : Ob), Γ' = [some (.obj p), some (.str k.word), some (.lst someD), some (formD us), some (.bl e), none, none] ∧ Θ' = updS Θ p o3 ∧ PurO o3 (n + 3)) ?_ ?_
  · refine ex1_asg (ev_and ?_)
    walk_at "zv"
    refine ⟨p, o2, n + 1 + 1, 5, rfl, hp2, ho2, by omega, by decide, by decide, fun d3 o3 d30 d31 ho3 => ?_⟩
    rw [updS_updS]
    walk_at "zv"
    refine br_dec (fun e1 => ?_) (fun e1 => ?_)
    · refine ev_one (ev_cmp (ec_notInTD rfl ?_))
      walk_at "zv"
      refine ⟨.list (us.map PyData.int), [.list [.int 3, .int 2], .list [.int 0, .int 2], .list [.int (-4), .int 1]], toP_form _, by simp [toP, toPs], shp_ints _, rfl, ?_⟩
      walk_at "zv"
      exact ho3
    · walk_at "zv"
      exact ho3
  rintro _ _ ⟨e, o3, rfl, rfl, ho3⟩
  have h2 := h (sidesP k us e) o3 (rg e) ho3
  have sr := sh_row (rg e)
  walk_at "zz"
  refine ⟨_, ⟨k, us, e, rfl, leg, rfl⟩, ?_⟩
  walk_at "zv"
  refine ex1_seq (fun Γ' Θ' => Γ' = [some (.obj p), some (.str k.word), some (.lst someD), some (formD us), some (.bl e), some (rowD (sidesP k us e)), some (rowD (sidesP k us e))] ∧ Θ' = updS Θ p o3) ?_ ?_
  · refine ex1_asg ?_
    walk_at "zv"
    refine br_b (fun e1 => ?_) (fun e1 => ?_)
    · subst e1
      walk_at "zv"
      rfl
    · subst e1
      walk_at "zv"
      refine ⟨_, ⟨k, us, rfl, leg, rfl⟩, ?_⟩
      walk_at "zv"
      rfl
  rintro _ _ ⟨rfl, rfl⟩
  walk_at "zv"
  refine ex1_ret (ev_ife (et_cmp (ec_eqT ?_)))
  walk_at "zv"
  refine ⟨_, toP_row _, ⟨_, .inl rfl⟩, sr.sw, sr.nd, Nat.le_trans sr.dp (by decide), Nat.le_trans sr.ln (by decide), ?_⟩
  walk_at "zv"
  refine ⟨_, toP_row _, ⟨_, .inl rfl⟩, sr.sw, sr.nd, Nat.le_trans sr.dp (by decide), Nat.le_trans sr.ln (by decide), ?_⟩
  walk_at "zv"
  exact fin h2
end
/-! ## K95V -/
section
variable {P : Program} {w : World} {K : Frag} {mg : Str → Option Value} {base : Heap}
/-! sizes -/
theorem far_bd : Bd 200 farI := by unfold Bd farI; decide
theorem wts_pt {r : Rw} (h : RowG r) {x y : Int} (h0 : 0 ≤ x) (h1 : x < 9) (h2 : 0 ≤ y) (h3 : y < 9) : (weightsP r x y).length ≤ 30 ∧ ∀ u, u ∈ weightsP r x y → PtK r u := by
  have b1 : Bd 210 1 := by unfold Bd; decide
  have bf : Bd 210 farI := bd_le far_bd (by decide)
  have bx : Bd 210 (1 + x) := by unfold Bd; omega
  have by_ : Bd 210 (1 + y) := by unfold Bd; omega
  obtain ⟨s1, s2⟩ := supp_bd h.k
  refine ⟨?_, fun u hu => wt_pt h.k h.sm (weights_ok h.k h0 h2 u hu).1.1 ?_⟩
  · unfold weightsP
    rw [List.length_append, List.length_map]
    have := supp_len h.k
    simp only [List.length_cons, List.length_nil]
    omega
  · unfold weightsP at hu
    rcases List.mem_append.mp hu with hu | hu
    · cases h.k with
      | one p q =>
        simp at hu
        rcases hu with rfl | rfl | rfl <;> simp [b1, bf, bx]
      | two s t =>
        simp at hu
        rcases hu with rfl | rfl | rfl | rfl <;> simp [b1, bf, bx, by_]
    · exact (s2 u hu).2
theorem at_bd {n : Nat} {f : List Int} {l : List (Int × Int)} (hf : SForm n f) (hl : VecK n l) : Bd 670 (atP f l) := by
  cases hl with
  | one h1 h2 =>
    cases hf with
    | two a b => exact bd_le (bd_add (bd_mul a h1) (bd_mul b h2)) (by decide)
  | two h1 h2 h3 h4 =>
    cases hf with
    | four a b c e =>
      have q1 := bd_mul (bd_mul a h1) h3
      have q2 := bd_mul (bd_mul b h1) h4
      have q3 := bd_mul (bd_mul c h2) h3
      have q4 := bd_mul (bd_mul e h2) h4
      exact bd_le (bd_add (bd_add (bd_add q1 q2) (bd_le q3 (by decide))) (bd_le q4 (by decide))) (by decide)
theorem form_small {n : Nat} {ss : List Rw} {f : List Int} (h : Shape n ss) (hf : FormB n f) (hs : ∀ r, r ∈ ss → ∀ s, s ∈ r → Sd2 s) : ∀ c, c ∈ crnP ss → (formP f c.2).natAbs ≤ 4 * 10 ^ 13 := by
  have q : ∀ {x y : Int} {M : Nat}, x.natAbs ≤ 2 → y.natAbs ≤ M → (x * y).natAbs ≤ 2 * M := fun {x y M} hx hy => by
    rw [Int.natAbs_mul]
    exact Nat.mul_le_mul hx hy
  have ad : ∀ {x y : Int} {M N : Nat}, x.natAbs ≤ M → y.natAbs ≤ N → (x + y).natAbs ≤ M + N := fun {x y M N} hx hy => by omega
  intro c hc
  obtain ⟨hf, hb⟩ := hf
  rcases crn_mem h c hc with ⟨rfl, s, e, r, hr, hsr⟩ | ⟨rfl, s, t, e, ⟨r, hr, hsr⟩, r2, hr2, htr⟩
  · obtain ⟨o1, o2⟩ := hs r hr s hsr
    rw [e]
    cases hf with
    | two a b => exact Nat.le_trans (ad (q o1 (hb a (by simp))) (q o2 (hb b (by simp)))) (by decide)
  · obtain ⟨o1, o2⟩ := hs r hr s hsr
    obtain ⟨o3, o4⟩ := hs r2 hr2 t htr
    rw [e]
    cases hf with
    | four a b c e => exact Nat.le_trans (ad (q o3 (ad (q o1 (hb a (by simp))) (q o2 (hb c (by simp))))) (q o4 (ad (q o1 (hb b (by simp))) (q o2 (hb e (by simp)))))) (by decide)
theorem crs_small {n : Nat} {ss : List Rw} {f g : List Int} (h : Shape n ss) (hf : FormB n f) (hg : FormB n g) (hs : ∀ r, r ∈ ss → ∀ s, s ∈ r → Sd2 s) : Small (crsP f g ss) := fun c hc => by
  obtain ⟨d, hd, rfl⟩ := List.mem_map.mp hc
  exact ⟨form_small h hf hs d hd, form_small h hg hs d hd⟩
theorem vals_bd {n : Nat} {f g : List Int} {l : List (List (Int × Int))} (hf : SForm n f) (hg : SForm n g) (hl : ∀ p, p ∈ l → VecK n p) : ∀ v, v ∈ valsP f g l → Bd 670 v.1 ∧ Bd 670 v.2 := fun v hv => by
  obtain ⟨p, hp, rfl⟩ := List.mem_map.mp hv
  exact ⟨at_bd hf (hl p hp), at_bd hg (hl p hp)⟩
end
/-! ## K95Y -/
section
variable {P : Program} {w : World} {K : Frag} {mg : Str → Option Value} {base : Heap}
abbrev spRight : SpD := fun ds Θ Post => ∃ (p : Addr) (o : Ob) (k n : Nat) (top bottom : List Int) (ss : List Rw), ds = [.obj p, formD top, formD bottom, sidesD ss] ∧ Case n top bottom ss ∧ Θ p = some o ∧ PurO o k ∧ k ≤ 800 ∧ ∀ o' : Ob, PurO o' (k + 4) → Post (.bl true) (updS Θ p o')
theorem mono_right : Mono spRight := fun _ _ _ _ q ⟨p, o, k, n, t, b, ss, e, c, h1, h2, h3, h⟩ => ⟨p, o, k, n, t, b, ss, e, c, h1, h2, h3, fun o' a => q _ _ (h o' a)⟩
theorem toP_kept (top bottom : List Int) (ss : List Rw) : toP (.lst [formD top, formD bottom, sidesD ss]) = some (.list [.list (top.map .int), .list (bottom.map .int), .list (ss.map rowPy)]) := by
  rw [toP, toPs, toPs, toPs, toPs, toP_form, toP_form, toP_sides]; rfl
theorem sh_kept {n : Nat} {top bottom : List Int} {ss : List Rw} (c : Case n top bottom ss) : Sh 5 91610 (.list [.list (top.map .int), .list (bottom.map .int), .list (ss.map rowPy)]) :=
  sh_list (n := 4) (N := 30534) (k := 3) (Nat.le_refl _) fun d hd => by
    rcases List.mem_cons.mp hd with rfl | hd
    · exact (sh_form c.t).le (by decide) (by decide)
    · rcases List.mem_cons.mp hd with rfl | hd
      · exact (sh_form c.b).le (by decide) (by decide)
      · rcases List.mem_cons.mp hd with rfl | hd
        · exact sh_sides c.sh c.g
        · cases hd
/-- the draws of the weights -/
def Dr9 (ss : List Rw) (dr : List (Int × Int)) : Prop := dr.length = ss.length ∧ ∀ d, d ∈ dr → 0 ≤ d.1 ∧ d.1 < 9 ∧ 0 ≤ d.2 ∧ d.2 < 9
theorem Dr9.ps {n : Nat} {ss : List Rw} {dr : List (Int × Int)} (h : Shape n ss) (g : ∀ r, r ∈ ss → RowG r) (d : Dr9 ss dr) : PsK ss (wtsP ss dr) := by
  obtain ⟨hl, hd⟩ := d
  rcases two_rows h with ⟨r, rfl⟩ | ⟨r, t, rfl⟩
  · match dr, hl with
    | [d], _ =>
    obtain ⟨a1, a2, a3, a4⟩ := hd d (by simp)
    obtain ⟨a, b⟩ := wts_pt (g r (by simp)) a1 a2 a3 a4
    exact .one a b
  · match dr, hl with
    | [d, e], _ =>
    obtain ⟨a1, a2, a3, a4⟩ := hd d (by simp)
    obtain ⟨b1, b2, b3, b4⟩ := hd e (by simp)
    obtain ⟨a, b⟩ := wts_pt (g r (by simp)) a1 a2 a3 a4
    obtain ⟨c, d⟩ := wts_pt (g t (by simp)) b1 b2 b3 b4
    exact .two a c b d
theorem Dr9.ok {ss : List Rw} {dr : List (Int × Int)} (d : Dr9 ss dr) : DrOk dr := fun x hx => ⟨(d.2 x hx).1, (d.2 x hx).2.2.1⟩
theorem right_of {n : Nat} {top bottom : List Int} {ss : List Rw} (c : Case n top bottom ss) {dr : List (Int × Int)} (d : Dr9 ss dr) :
    (nrP top bottom ss = true → rangeP top bottom ss = none) ∧
    (nrP top bottom ss = false → ∃ lo li hi hj, rangeP top bottom ss = some (lo, li, hi, hj) ∧ EndsK lo li hi hj (valsP top bottom (pointsP ss (wtsP ss dr))) (valsP top bottom (pointsP ss (ss.map suppP)))) := by
  obtain ⟨a, b⟩ := law_right c.sh (fun r hr => (c.g r hr).k) c.t.1 c.b.1 (crs_small c.sh c.t c.b fun r hr => (c.g r hr).s2) d.1 d.ok
  refine ⟨a, fun q => ?_⟩
  obtain ⟨lo, li, hi, hj, e, G⟩ := b q
  obtain ⟨n1, k1⟩ := pts_k c.sh (d.ps c.sh c.g)
  obtain ⟨n2, k2⟩ := pts_k c.sh (supp_ps c.sh c.g)
  refine ⟨lo, li, hi, hj, e, ⟨G, fun v hv => ?_, fun v hv => ?_, ?_, ?_, by unfold valsP; rw [List.length_map]; exact n1, by unfold valsP; rw [List.length_map]; exact n2⟩⟩
  · obtain ⟨x, y⟩ := vals_bd c.t.s c.b.s k1 v hv
    exact ⟨bd_le x (by decide), bd_le y (by decide)⟩
  · obtain ⟨x, y⟩ := vals_bd c.t.s c.b.s k2 v hv
    exact ⟨bd_le x (by decide), bd_le y (by decide)⟩
  · obtain ⟨x, y⟩ := G.sl
    exact ⟨bd_le (m := 60) (by unfold Bd; omega) (by decide), bd_le (m := 60) (by unfold Bd; omega) (by decide)⟩
  · obtain ⟨x, y⟩ := G.sh
    exact ⟨bd_le (m := 60) (by unfold Bd; omega) (by decide), bd_le (m := 60) (by unfold Bd; omega) (by decide)⟩
theorem fm_vals2 (top bottom : List Int) (l : List (List (Int × Int))) : (l.map vecD).filterMap (fun d => some (frD (atP top (unVec d), atP bottom (unVec d)))) = (valsP top bottom l).map frD := by
  unfold valsP
  rw [List.filterMap_map, List.map_map]
  have e : ((fun d => some (frD (atP top (unVec d), atP bottom (unVec d)))) ∘ vecD) = fun p => some (frD (atP top p, atP bottom p)) := by funext p; simp [unVec_vec]
  rw [e, ← List.filterMap_eq_map]
  rfl
end
/-! ## K95Zr -/
section
variable {P : Program} {w : World} {K : Frag} {mg : Str → Option Value} {base : Heap}
theorem mx_le {a b m : Int} (h : (if (if b < 0 then -b else b) > (if a < 0 then -a else a) then (if b < 0 then -b else b) else (if a < 0 then -a else a)) ≤ m) : (a.natAbs : Int) ≤ m ∧ (b.natAbs : Int) ≤ m := by
  repeat' split at h
  all_goals omega
theorem b100 {a m : Int} (h : (a.natAbs : Int) ≤ m) (e : ¬ 10 ^ Int.toNat 30 ≤ m) : Bd 200 a := by
  have e2 : m < 10 ^ 30 := Int.not_le.mp e
  exact bd_le (m := 100) (by unfold Bd; omega) (by decide)
theorem eq1 {a b q r : Int} : q * a + r * b = atP [a, b] [(q, r)] := by unfold atP; grind
theorem eq2 {a b c e q r u v : Int} : u * (q * a + r * c) + v * (q * b + r * e) = atP [a, b, c, e] [(q, r), (u, v)] := by unfold atP; grind
set_option maxHeartbeats 4000000 in
theorem ok_law_right (T : Txt K mg) : Fn P w K mg base 7 "_law_right" spRight := by
  have F1 : Fn P w K mg base 6 "range_over" spRangeOver := ok_range_over T
  have F2 : Fn P w K mg base 3 "_law_no_range" spNoRange := ok_law_no_range T
  have F3 : Fn P w K mg base 2 "_law_points" spPoints := ok_law_points T
  have F4 : Fn P w K mg base 2 "_law_weights" spWts := ok_law_weights T
  have F5 : Fn P w K mg base 1 "_law_supports" spSupp := ok_law_supports T
  have F6 : Fn P w K mg base 1 "form_at" spFormAt := ok_form_at T
  have F7 : Fn P w K mg base 1 "_law_at" spAt := ok_law_at T
  have F8 : Fn P w K mg base 2 "_law_ends_right" spEnds := ok_law_ends_right T
  obtain ⟨fd, F⟩ := T.says.def_ i_law_right (d := d_law_right) rfl
  refine fn_ok F (T.glo "_law_right" (by kernel_rfl)) (F.bindsN fun _ _ _ _ _ _ us hl => match us, hl with | [_, _, _, _], _ => rfl) sc_law_right (mono_right) ?_
  rintro ds Θ Post ⟨p, o, k, n, top, bottom, ss, rfl, c, hp, ho, hk, h⟩
  refine ⟨rfl, ?_⟩
  have hs := c.sh
  have st := c.t.s
  have sb := c.b.s
  have sk := sh_kept c
  show ex _ _ [some (.obj p), some (formD top), some (formD bottom), some (sidesD ss), none, none, none, none, none, none, none, none] _ _
  walk_at "zz"
  refine ⟨_, toP_kept top bottom ss, ⟨_, .inl rfl⟩, sk.sw, sk.nd, Nat.le_trans sk.dp (by decide), Nat.le_trans sk.ln (by decide), ?_⟩
  walk_at "zz"
  refine ⟨_, ⟨n, top, bottom, ss, rfl, hs, st, sb, fun r hr s hsr => (c.g r hr).sm s hsr, rfl⟩, ?_⟩
  walk_at "zv"
  refine ex1_if (et_cmp (ec_neT ?_))
  walk_at "zv"
  refine ⟨_, toP_kept top bottom ss, ⟨_, .inl rfl⟩, sk.sw, sk.nd, Nat.le_trans sk.dp (by decide), Nat.le_trans sk.ln (by decide), ?_⟩
  walk_at "zv"
  walk_at "z"
  walk_at "zv"
  refine ⟨_, ⟨n, top, bottom, ss, rfl, c, rfl⟩, ?_⟩
  walk_at "zv"
  refine br_b (fun e1 => ?_) (fun e1 => ?_)
  · have er : rangeP top bottom ss = none := (right_of (dr := ss.map fun _ => (0, 0)) c ⟨by rw [List.length_map], fun d hd => by
      obtain ⟨_, _, rfl⟩ := List.mem_map.mp hd
      exact ⟨by decide, by decide, by decide, by decide⟩⟩).1 e1
    rw [er]
    walk_at "zz"
    have h2 := h o (ho.le (by omega))
    rw [updS_self hp] at h2
    exact fin h2
  obtain ⟨lo, li, hi, hj, er, _⟩ := (right_of (dr := ss.map fun _ => (0, 0)) c ⟨by rw [List.length_map], fun d hd => by
    obtain ⟨_, _, rfl⟩ := List.mem_map.mp hd
    exact ⟨by decide, by decide, by decide, by decide⟩⟩).2 e1
  rw [er]
  show ex _ _ [some (.obj p), some (formD top), some (formD bottom), some (sidesD ss), _, some (.tup [frD lo, .bl li, frD hi, .bl hj]), none, none, none, none, none, none] _ _
  walk_at "zv"
  walk_at "z"
  walk_at "zv"
  generalize (PyData.list [.list (top.map .int), .list (bottom.map .int), .list (ss.map rowPy)]).shown = kept
  -- the points
  refine ex1_seq (fun Γ' Θ' => ∃ (dr : List (Int × Int)) (o' : Ob), Dr9 ss dr ∧ PurO o' (k + 4) ∧ Γ' = [some (.obj p), some (formD top), some (formD bottom), some (sidesD ss), some (.str kept), some (.tup [frD lo, .bl li, frD hi, .bl hj]), some (.lst ((pointsP ss (wtsP ss dr)).map vecD)), none, none, none, none, none] ∧ Θ' = updS Θ p o') ?_ ?_
  · refine ex1_asgS (by intro env h; cases env; cases h; rfl) ?_
    walk_at "zv"
    walk_at "zlc"
    rcases two_rows hs with ⟨r, rfl⟩ | ⟨r, t, rfl⟩
    · have gr := c.g r (by simp)
      refine ei_lst ?_
      walk_at "z"
      refine ⟨_, .inl rfl, Nat.le_of_ble_eq_true (by rfl), ?_⟩
      show lcT _ _ _ _ _ _ _ _ [rowD r] [] _
      walk_at "zv"
      refine ⟨p, o, k, r, rfl, gr.k, hp, ho, by omega, fun x y o1 x0 x1 y0 y1 ho1 => ?_⟩
      have hd : Dr9 [r] [(x, y)] := ⟨rfl, fun d hd => by
        rw [List.mem_singleton] at hd
        subst hd
        exact ⟨x0, x1, y0, y1⟩⟩
      walk_at "zv"
      refine ⟨_, ⟨[r], wtsP [r] [(x, y)], rfl, hd.ps hs c.g, rfl⟩, ?_⟩
      walk_at "zv"
      exact ⟨[(x, y)], o1, hd, ho1.le (by omega), rfl, rfl⟩
    · have gr := c.g r (by simp)
      have gt := c.g t (by simp)
      refine ei_lst ?_
      walk_at "z"
      refine ⟨_, .inl rfl, Nat.le_of_ble_eq_true (by rfl), ?_⟩
      show lcT _ _ _ _ _ _ _ _ [rowD r, rowD t] [] _
      walk_at "zv"
      refine ⟨p, o, k, r, rfl, gr.k, hp, ho, by omega, fun x y o1 x0 x1 y0 y1 ho1 => ?_⟩
      have hp1 : updS Θ p o1 p = some o1 := updS_same
      walk_at "zv"
      refine ⟨p, o1, k + 2, t, rfl, gt.k, hp1, ho1, by omega, fun u v o2 u0 u1 v0 v1 ho2 => ?_⟩
      rw [updS_updS]
      have hd : Dr9 [r, t] [(x, y), (u, v)] := ⟨rfl, fun d hd => by
        rcases List.mem_cons.mp hd with rfl | hd
        · exact ⟨x0, x1, y0, y1⟩
        · rw [List.mem_singleton] at hd
          subst hd
          exact ⟨u0, u1, v0, v1⟩⟩
      walk_at "zv"
      refine ⟨_, ⟨[r, t], wtsP [r, t] [(x, y), (u, v)], rfl, hd.ps hs c.g, rfl⟩, ?_⟩
      walk_at "zv"
      exact ⟨[(x, y), (u, v)], o2, hd, ho2.le (by omega), rfl, rfl⟩
  rintro _ _ ⟨dr, o', hd, ho', rfl, rfl⟩
  have h2 := h o' ho'
  generalize updS Θ p o' = Θ2 at h2
  obtain ⟨lo', li', hi', hj', er', EK⟩ := (right_of c hd).2 e1
  rw [er] at er'
  cases er'
  have ps := hd.ps hs c.g
  obtain ⟨pn, pk⟩ := pts_k hs ps
  have ps2 := supp_ps hs c.g
  obtain ⟨pn2, pk2⟩ := pts_k hs ps2
  generalize hpt : pointsP ss (wtsP ss dr) = pts at pn pk EK
  walk_at "zv"
  refine ex1_asgS (by intro env h; cases env; cases h; rfl) ?_
  walk_at "zv"
  walk_at "zlc"
  refine ei_lst ?_
  walk_at "zv"
  refine ⟨sz (by rw [List.length_map]; have := shape_len hs; omega), ?_⟩
  refine lcT_fm (fun d => some (wtsD (suppP (unRow d)))) (by kernel_rfl) (by walk_at "zat") (by kernel_rfl) (by kernel_rfl) (by intro _; walk_at "zs") ?_ ?_
  · intro d hd
    obtain ⟨r, hr, rfl⟩ := List.mem_map.mp hd
    walk_at "zv"
    refine ⟨_, ⟨r, rfl, (c.g r hr).k, rfl⟩, ?_⟩
    exact ⟨rfl, by rw [unRow_row]⟩
  rw [List.nil_append, fm_supp]
  walk_at "zv"
  refine ⟨_, ⟨ss, ss.map suppP, rfl, ps2, rfl⟩, ?_⟩
  generalize hhl : pointsP ss (ss.map suppP) = hld at pn2 pk2 EK
  walk_at "zv"
  refine ex1_for (fun ds m Γ1 Θ1 => ∃ x8 x9 x10 x11, Γ1 = [some (.obj p), some (formD top), some (formD bottom), some (sidesD ss), some (.str kept), some (.tup [frD lo, .bl li, frD hi, .bl hj]), some (.lst (pts.map vecD)), some (.lst (hld.map vecD)), x8, x9, x10, x11] ∧ Θ1 = Θ2) ?_
  refine ei_lst ?_
  walk_at "z"
  refine ⟨_, .inl rfl, ⟨_, _, _, _, rfl, rfl⟩, ?_, ?_⟩
  · rintro m d Γ1 Θ1 hd ⟨x8, x9, x10, x11, rfl, rfl⟩
    rw [List.getElem?_map] at hd
    cases hv : pts[m]? with
    | none => rw [hv] at hd; cases hd
    | some l =>
    rw [hv] at hd
    cases hd
    have lk := pk l (List.mem_of_getElem? hv)
    cases lk with
    | @one q r h3 h4 =>
      cases st with
      | @two t0 t1 t2 t3 =>
      cases sb with
      | @two s0 s1 s2 s3 =>
      show eg _ _ (.lst [frD (q, r)]) _ _ _
      walk_at "zv"
      refine ex1_if (et_cmp (ec_ge (ev_max (by walk_at "zb") ?_)))
      walk_at "zlc"
      refine ei_lst ?_
      walk_at "zv"
      refine ⟨[_], rfl, Nat.succ_pos _, fun m' hm1 hm2 => ?_⟩
      have hm3 := mx_le (hm2 _ (List.mem_cons_self ..))
      clear hm1 hm2
      walk_at "zv"
      refine ⟨⟨by decide, by decide, by decide⟩, ?_⟩
      walk_at "zv"
      refine br_dec (fun e => ?_) (fun e => ?_)
      · walk_at "zv"
        walk_at "z"
        exact ⟨_, _, _, _, rfl, rfl⟩
      have bq := b100 hm3.1 e
      have br := b100 hm3.2 e
      walk_at "zv"
      refine ex1_if (et_bo (ew_or (et_cmp (ec_neI ?_))))
      walk_at "zv"
      refine ⟨_, .inl ⟨s0, s1, q, r, _, rfl, .inl rfl, ⟨bd_le s2 (by decide), bd_le s3 (by decide), bq, br⟩, rfl⟩, ?_⟩
      walk_at "zv"
      refine ⟨_, ⟨2, [s0, s1], [(q, r)], rfl, ⟨.two s2 s3, .one h3 h4⟩, rfl⟩, ?_⟩
      walk_at "zv"
      refine br_ndec (fun n => absurd eq1 n) (fun _ => ?_)
      walk_at "zv"
      refine ⟨(by intro z; cases z), ?_⟩
      walk_at "zv"
      refine ⟨_, .inl ⟨t0, t1, q, r, _, rfl, .inr rfl, ⟨bd_le t2 (by decide), bd_le t3 (by decide), bq, br⟩, rfl⟩, ?_⟩
      walk_at "zv"
      refine ⟨_, ⟨2, [t0, t1], [(q, r)], rfl, ⟨.two t2 t3, .one h3 h4⟩, rfl⟩, ?_⟩
      walk_at "zv"
      refine br_ndec (fun n => absurd eq1 n) (fun _ => ?_)
      walk_at "zv"
      exact ⟨_, _, _, _, rfl, rfl⟩
    | @two q r u v h3 h4 h5 h6 =>
      cases st with
      | @four t0 t1 t2 t3 u0 u1 u2 u3 =>
      cases sb with
      | @four s0 s1 s2 s3 v0 v1 v2 v3 =>
      show eg _ _ (.lst [frD (q, r), frD (u, v)]) _ _ _
      walk_at "zv"
      refine ex1_if (et_cmp (ec_ge (ev_max (by walk_at "zb") ?_)))
      walk_at "zlc"
      refine ei_lst ?_
      walk_at "zv"
      refine ⟨[_, _], rfl, Nat.succ_pos _, fun m' hm1 hm2 => ?_⟩
      have hm3 := mx_le (hm2 _ (List.mem_cons_self ..))
      have hm4 := mx_le (hm2 _ (List.mem_cons_of_mem _ (List.mem_cons_self ..)))
      clear hm1 hm2
      walk_at "zv"
      refine ⟨⟨by decide, by decide, by decide⟩, ?_⟩
      walk_at "zv"
      refine br_dec (fun e => ?_) (fun e => ?_)
      · walk_at "zv"
        walk_at "z"
        exact ⟨_, _, _, _, rfl, rfl⟩
      have bq := b100 hm3.1 e
      have br := b100 hm3.2 e
      have bu := b100 hm4.1 e
      have bv := b100 hm4.2 e
      walk_at "zv"
      refine ex1_if (et_bo (ew_or (et_cmp (ec_neI ?_))))
      walk_at "zv"
      refine ⟨_, .inr ⟨s0, s1, s2, s3, q, r, u, v, _, rfl, .inl rfl, ⟨bd_le v0 (by decide), bd_le v1 (by decide), bd_le v2 (by decide), bd_le v3 (by decide), bq, br, bu, bv⟩, rfl⟩, ?_⟩
      walk_at "zv"
      refine ⟨_, ⟨4, [s0, s1, s2, s3], [(q, r), (u, v)], rfl, ⟨.four v0 v1 v2 v3, .two h3 h4 h5 h6⟩, rfl⟩, ?_⟩
      walk_at "zv"
      refine br_ndec (fun n => absurd eq2 n) (fun _ => ?_)
      walk_at "zv"
      refine ⟨(by intro z; cases z), ?_⟩
      walk_at "zv"
      refine ⟨_, .inr ⟨t0, t1, t2, t3, q, r, u, v, _, rfl, .inr rfl, ⟨bd_le u0 (by decide), bd_le u1 (by decide), bd_le u2 (by decide), bd_le u3 (by decide), bq, br, bu, bv⟩, rfl⟩, ?_⟩
      walk_at "zv"
      refine ⟨_, ⟨4, [t0, t1, t2, t3], [(q, r), (u, v)], rfl, ⟨.four u0 u1 u2 u3, .two h3 h4 h5 h6⟩, rfl⟩, ?_⟩
      walk_at "zv"
      refine br_ndec (fun n => absurd eq2 n) (fun _ => ?_)
      walk_at "zv"
      exact ⟨_, _, _, _, rfl, rfl⟩
  · rintro Γ1 Θ1 ⟨x8, x9, x10, x11, rfl, rfl⟩
    walk_at "zv"
    walk_at "zset"
    refine ei_lst ?_
    walk_at "zv"
    refine ⟨sz (by rw [List.length_map]; omega), ?_⟩
    refine lcT_fm (fun d => some (frD (atP top (unVec d), atP bottom (unVec d)))) (by kernel_rfl) (by walk_at "zat") (by kernel_rfl) (by kernel_rfl) (by intro _; walk_at "zs") ?_ ?_
    · intro d hd
      obtain ⟨l, hl, rfl⟩ := List.mem_map.mp hd
      walk_at "zv"
      refine ⟨_, ⟨n, top, l, rfl, ⟨st, pk l hl⟩, rfl⟩, ?_⟩
      walk_at "zv"
      refine ⟨_, ⟨n, bottom, l, rfl, ⟨sb, pk l hl⟩, rfl⟩, ?_⟩
      walk_at "zv"
      rw [unVec_vec]
    rw [List.nil_append, fm_vals2]
    dsimp only [List.set]
    walk_at "z"
    refine ex1_ret ?_
    walk_at "zv"
    walk_at "zlc"
    refine ei_lst ?_
    walk_at "zv"
    refine ⟨sz (by rw [List.length_map]; omega), ?_⟩
    refine lcT_fm (fun d => some (frD (atP top (unVec d), atP bottom (unVec d)))) (by kernel_rfl) (by walk_at "zat") (by kernel_rfl) (by kernel_rfl) (by intro _; walk_at "zs") ?_ ?_
    · intro d hd
      obtain ⟨l, hl, rfl⟩ := List.mem_map.mp hd
      walk_at "zv"
      refine ⟨_, ⟨n, top, l, rfl, ⟨st, pk2 l hl⟩, rfl⟩, ?_⟩
      walk_at "zv"
      refine ⟨_, ⟨n, bottom, l, rfl, ⟨sb, pk2 l hl⟩, rfl⟩, ?_⟩
      walk_at "zv"
      rw [unVec_vec]
    rw [List.nil_append, fm_vals2]
    walk_at "zv"
    refine ⟨_, ⟨lo, li, hi, hj, _, _, rfl, EK, rfl⟩, ?_⟩
    exact fin h2
end
/-! ## K95W -/
section
variable {P : Program} {w : World} {K : Frag} {mg : Str → Option Value} {base : Heap}
abbrev spLaw : SpD := pureSp fun ds d => ∃ ns : List Int, ds = [.wls (ns.map .int)] ∧ ns.length ≤ 63 ∧ d = .bl true
theorem pur0 {o : Ob} {n m : Nat} (h : PurO o n) (e : n ≤ m) : PurO o m := h.le e
theorem shape1 {r : Rw} (h : RowG r) : Shape 2 [r] := by cases h <;> constructor
theorem shape2 {r t : Rw} (h : RowG r) (g : RowG t) : Shape 4 [r, t] := by cases h <;> cases g <;> constructor
theorem no_none (ss : List Rw) : ((ss.map rowPy).any fun z => PyData.eqv z .none) = false := by
  rw [List.any_map, List.any_eq_false]
  intro r _
  show ¬ (PyData.eqv (.list (r.map sdPy)) .none = true)
  simp [PyData.eqv]
theorem b33 : Bd 3 2 := by unfold Bd; decide
set_option maxHeartbeats 4000000 in
theorem ok_law (T : Txt K mg) {fd : FuncData} (F : FunD K d_law.name d_law.qual d_law.params d_law.body d_law.scope (d_law.dvs K) (d_law.kws K) (He.fAd K d_law.at_) fd) : FnG P w K mg base CX0 8 (He.fAd K d_law.at_) fd ["script"] (toSp K spLaw) := by
  have F1 : Fn P w K mg base 1 "_law_cell" spCell := ok_law_cell T
  have F2 : Fn P w K mg base 1 "_law_purse" spPurse := ok_law_purse T
  have F3 : Fn P w K mg base 6 "_law_sides" spSides := ok_law_sides T
  have F4 : Fn P w K mg base 2 "_law_form" spForm := ok_law_form T
  have F5 : Fn P w K mg base 1 "_law_take" spTake := ok_law_take T
  have F6 : Fn P w K mg base 2 "_law_nought_at" spNought := ok_law_nought_at T
  have F7 : Fn P w K mg base 7 "_law_right" spRight := ok_law_right T
  refine body_ok F sc_law ?_
  rintro ds Θ Post ⟨d, ⟨ns, rfl, hn, rfl⟩, h⟩
  refine ⟨rfl, ?_⟩
  show ex _ _ [some (.wls (ns.map .int)), none, none, none, none, none, none, none, none] _ _
  walk_at "zv"
  refine ex1_for (fun ds m Γ1 Θ1 => (∃ j : Nat, ds = rngD 0 j ∧ j ≤ 6) ∧ ∃ x1 x2 x3 x4 x5 x6 x7 x8, Γ1 = [some (.wls (ns.map .int)), x1, x2, x3, x4, x5, x6, x7, x8] ∧ Θ1 = Θ) ?_
  refine ei_range1 (by walk_at "zb") ?_
  walk_at "zv"
  refine ⟨_, seqWl, _, _, rfl, rfl, _, _, rfl, rfl, _, rfl, ?_, ?_, ⟨⟨_, rfl, ?_⟩, _, _, _, _, _, _, _, _, rfl, rfl⟩, ?_, ?_⟩
  · repeat' split
    all_goals omega
  · repeat' split
    all_goals omega
  · repeat' split
    all_goals omega
  · rintro i x Γ1 Θ1 hx ⟨⟨j, ej, hj⟩, x1, x2, x3, x4, x5, x6, x7, x8, rfl, rfl⟩
    rw [ej] at hx
    obtain ⟨hi, rfl⟩ := rngD_get hx
    clear hx
    walk_at "zv"
    walk_at "z"
    walk_at "zv"
    refine ⟨ns, 0 + (i : Int), rfl, by omega, by omega, fun cl => ?_⟩
    walk_at "zv"
    intro q o hq ho
    walk_at "zv"
    refine ex1_for (fun ds m Γ1 Θ2 => ds = [.int 1, .int 2, .int 2] ∧ ∃ (o' : Ob) (x1 x3 x4 x5 x6 x7 x8 : Option Da), Γ1 = [some (.wls (ns.map .int)), x1, some (.obj q), x3, x4, x5, x6, x7, x8] ∧ Θ2 = updS Θ1 q o' ∧ PurO o' (30 * m)) ?_
    refine ei_lst ?_
    walk_at "zv"
    refine ⟨⟨rfl, o, _, _, _, _, _, _, _, rfl, rfl, ho⟩, ?_, ?_⟩
    · rintro m x Γ2 Θ2 hx ⟨_, o1, y1, y3, y4, y5, y6, y7, y8, rfl, rfl, ho1⟩
      have hm : m < 3 := (List.getElem?_eq_some_iff.mp hx).1
      obtain ⟨mm, n, ex, hmn⟩ : ∃ (mm : Int) (n : Nat), x = .int mm ∧ ((mm = 1 ∧ n = 2) ∨ (mm = 2 ∧ n = 4)) := by
        have : m = 0 ∨ m = 1 ∨ m = 2 := by omega
        rcases this with rfl | rfl | rfl <;> cases hx
        · exact ⟨1, 2, rfl, .inl ⟨rfl, rfl⟩⟩
        · exact ⟨2, 4, rfl, .inr ⟨rfl, rfl⟩⟩
        · exact ⟨2, 4, rfl, .inr ⟨rfl, rfl⟩⟩
      subst ex
      clear hx
      have h1 : updS Θ1 q o1 q = some o1 := updS_same
      walk_at "zv"
      refine ex1_seq (fun Γ' Θ' => ∃ (ss : List Rw) (o2 : Ob) (z8 : Option Da), Shape n ss ∧ (∀ r, r ∈ ss → RowG r) ∧ PurO o2 (30 * m + 6) ∧ Γ' = [some (.wls (ns.map .int)), y1, some (.obj q), some (.int mm), some (sidesD ss), y5, y6, y7, z8] ∧ Θ' = updS Θ1 q o2) ?_ ?_
      · walk_at "zset"
        refine ei_range1 (by walk_at "zb") ?_
        rcases hmn with ⟨rfl, rfl⟩ | ⟨rfl, rfl⟩
        · walk_at "z"
          refine ⟨_, rfl, by decide, by decide, ?_⟩
          rw [show rngD 0 (1 : Int).toNat = [.int 0] by kernel_rfl]
          walk_at "zv"
          refine ⟨q, o1, 30 * m, rfl, h1, ho1, by omega, fun r o2 rg ho2 => ?_⟩
          rw [updS_updS]
          walk_at "zv"
          exact ⟨[r], o2, _, shape1 rg, fun z hz => by rw [List.mem_singleton] at hz; subst hz; exact rg, ho2.le (by omega), rfl, rfl⟩
        · walk_at "z"
          refine ⟨_, rfl, by decide, by decide, ?_⟩
          rw [rg2]
          walk_at "zv"
          refine ⟨q, o1, 30 * m, rfl, h1, ho1, by omega, fun r o2 rg ho2 => ?_⟩
          rw [updS_updS]
          have h2 : updS Θ1 q o2 q = some o2 := updS_same
          walk_at "zv"
          refine ⟨q, o2, 30 * m + 3, rfl, h2, ho2, by omega, fun t o3 tg ho3 => ?_⟩
          rw [updS_updS]
          walk_at "zv"
          exact ⟨[r, t], o3, _, shape2 rg tg, fun z hz => by
            rcases List.mem_cons.mp hz with rfl | hz
            · exact rg
            · rw [List.mem_singleton] at hz; subst hz; exact tg, ho3.le (by omega), rfl, rfl⟩
      rintro _ _ ⟨ss, o2, z8, hs, rg, ho2, rfl, rfl⟩
      have h2 : updS Θ1 q o2 q = some o2 := updS_same
      have s2 : ∀ r, r ∈ ss → ∀ s, s ∈ r → Sd2 s := fun r hr => (rg r hr).s2
      walk_at "zv"
      refine ex1_if (et_cmp (ec_inD rfl ?_))
      walk_at "zv"
      refine ⟨.none, ss.map rowPy, by rw [toP], toP_sides ss, rfl, shaped_by (n := 4) (shp_list fun d hd => ?_), ?_⟩
      · obtain ⟨r, hr, rfl⟩ := List.mem_map.mp hd
        refine shp_list fun d hd => ?_
        obtain ⟨s, _, rfl⟩ := List.mem_map.mp hd
        refine shp_tup fun d hd => ?_
        rcases List.mem_cons.mp hd with rfl | hd
        · refine shp_tup fun d hd => ?_
          rcases List.mem_cons.mp hd with rfl | hd
          · exact shp_int
          · rcases List.mem_cons.mp hd with rfl | hd
            · exact shp_int
            · cases hd
        · rcases List.mem_cons.mp hd with rfl | hd
          · exact ⟨by simp [PyData.canLay0], by simp [PyData.depth]⟩
          · cases hd
      rw [no_none]
      walk_at "zv"
      have b3 : Bd 3 mm := by unfold Bd; omega
      have b2 := b33
      have em : 2 * mm = ((n : Nat) : Int) := by omega
      have hn4 : n = 2 ∨ n = 4 := by omega
      walk_at "z"
      walk_at "zv"
      refine ⟨q, o2, 30 * m + 6, n, by rw [em], h2, ho2, by omega, hn4, fun top o3 ft ho3 => ?_⟩
      rw [updS_updS]
      have h3 : updS Θ1 q o3 q = some o3 := updS_same
      walk_at "zv"
      refine ⟨q, o3, 30 * m + 6 + 5, n, by rw [em], h3, ho3, by omega, hn4, fun bot o4 fb ho4 => ?_⟩
      rw [updS_updS]
      have h4 : updS Θ1 q o4 q = some o4 := updS_same
      walk_at "zv"
      walk_at "z"
      walk_at "zv"
      refine ⟨q, o4, 30 * m + 6 + 5 + 5, 4, rfl, h4, ho4, by omega, by decide, by decide, fun d o5 d0 d1 ho5 => ?_⟩
      rw [updS_updS]
      have h5 : updS Θ1 q o5 q = some o5 := updS_same
      walk_at "zv"
      refine ex1_seq (fun Γ' Θ' => ∃ (bot' : List Int) (o6 : Ob), FormB n bot' ∧ PurO o6 (30 * m + 19) ∧ Γ' = [some (.wls (ns.map .int)), y1, some (.obj q), some (.int mm), some (sidesD ss), some (formD top), some (formD bot'), some (.int d), z8] ∧ Θ' = updS Θ1 q o6) ?_ ?_
      · walk_at "z"
        walk_at "zv"
        refine br_dec (fun e => ?_) (fun e => ?_)
        · walk_at "zv"
          walk_at "z"
          walk_at "zv"
          refine ⟨q, o5, 30 * m + 6 + 5 + 5 + 1, n, bot, ss, rfl, hs, s2, fb, h5, ho5, by omega, fun f' o6 fb' ho6 => ?_⟩
          rw [updS_updS]
          walk_at "zv"
          exact ⟨f', o6, fb', ho6.le (by omega), rfl, rfl⟩
        · walk_at "zv"
          exact ⟨bot, o5, fb.b hn4, ho5.le (by omega), rfl, rfl⟩
      rintro _ _ ⟨bot', o6, fb', ho6, rfl, rfl⟩
      have h6 : updS Θ1 q o6 q = some o6 := updS_same
      walk_at "zv"
      refine ex1_seq (fun Γ' Θ' => ∃ (top' : List Int) (o7 : Ob), FormB n top' ∧ PurO o7 (30 * m + 21) ∧ Γ' = [some (.wls (ns.map .int)), y1, some (.obj q), some (.int mm), some (sidesD ss), some (formD top'), some (formD bot'), some (.int d), z8] ∧ Θ' = updS Θ1 q o7) ?_ ?_
      · walk_at "z"
        walk_at "zv"
        refine br_dec (fun e => ?_) (fun e => ?_)
        · walk_at "zv"
          walk_at "z"
          walk_at "zv"
          refine ⟨q, o6, 30 * m + 19, n, top, ss, rfl, hs, s2, ft, h6, ho6, by omega, fun f' o7 ft' ho7 => ?_⟩
          rw [updS_updS]
          walk_at "zv"
          exact ⟨f', o7, ft', ho7.le (by omega), rfl, rfl⟩
        · walk_at "zv"
          exact ⟨top, o6, ft.b hn4, ho6.le (by omega), rfl, rfl⟩
      rintro _ _ ⟨top', o7, ft', ho7, rfl, rfl⟩
      have h7 : updS Θ1 q o7 q = some o7 := updS_same
      walk_at "zv"
      walk_at "z"
      walk_at "zv"
      refine ⟨q, o7, 30 * m + 21, n, top', bot', ss, rfl, ⟨hs, rg, ft', fb'⟩, h7, ho7, by omega, fun o8 ho8 => ?_⟩
      rw [updS_updS]
      walk_at "zv"
      exact ⟨o8, _, _, _, _, _, _, _, rfl, rfl, ho8.le (by omega)⟩
    · rintro Γ2 Θ2 ⟨_, o1, y1, y3, y4, y5, y6, y7, y8, rfl, rfl, ho1⟩
      refine ex_drop (LeS.upd hq) ?_
      walk_at "zv"
      exact ⟨⟨j, ej, hj⟩, _, _, _, _, _, _, _, _, rfl, rfl⟩
  · rintro Γ1 Θ1 ⟨_, x1, x2, x3, x4, x5, x6, x7, x8, rfl, rfl⟩
    walk_at "zz"
    exact fin h
end
/-! ## K95End -/
/-! the end: the head's facts, the law over the row -/
theorem con_mem {l : List Str} {x : Str} (h : l.contains x = true) : x ∈ l := by simpa using h
theorem con_mem2 {l : List (Str × Str)} {x : Str × Str} (h : l.contains x = true) : x ∈ l := by simpa using h
theorem txt_of {K : Frag} {mg : Str → Option Value} {h : Heap} (X : K.In h) (G : h.Ns mainGlobals mg) (c : SaysX chk fnL K) : Txt K mg := by
  have l := c.looks
  unfold chk at l
  obtain ⟨l1, l⟩ := He.ba l
  obtain ⟨l2, l⟩ := He.ba l
  obtain ⟨l3, l4⟩ := He.ba l
  have f : ∀ {fa : He.Fa}, fa ∈ faL → fa.ok K = true := fun m => all_fact l1 m
  have mM : ∀ m, m ∈ mthU → ∀ x, x ∈ clsU → He.Fa.meth x m ∈ faL := fun m hm x hx => by
    simp only [clsU, List.mem_cons, List.not_mem_nil, or_false] at hx
    unfold faL
    simp only [List.mem_append, List.mem_map]
    rcases hx with rfl | rfl | rfl
    · exact .inr (.inr (.inr (.inr (.inr (.inl ⟨m, hm, rfl⟩)))))
    · exact .inr (.inr (.inr (.inr (.inr (.inr (.inl ⟨m, hm, rfl⟩))))))
    · exact .inr (.inr (.inr (.inr (.inr (.inr (.inr ⟨m, hm, rfl⟩))))))
  have mth : ∀ m, m ∈ mthU → ∀ x, x ∈ clsU → Meth K (He.ga K x) m (He.fAd K (x, some m)) := fun m hm x hx => He.meth_ok (f (mM m hm x hx))
  refine ⟨c, fun x hx => ?_, fun x hx => ?_, fun x z hx => ?_, fun x hx => ?_, fun x m hx => ?_, ?_, fun x hx => ?_, fun H => ?_⟩
  · have hx := con_mem hx
    refine He.glo_ok X G (f (fa := .glo x) ?_)
    unfold faL
    simp only [List.mem_append, List.mem_map] at hx ⊢
    rcases hx with hx | hx
    · exact .inl ⟨x, hx, rfl⟩
    · exact .inr (.inr (.inr (.inr (.inl ⟨x, hx, rfl⟩))))
  · refine He.free_ok X G (f (fa := .free x) ?_)
    unfold faL
    simp only [List.mem_append, List.mem_map]
    exact .inr (.inl ⟨x, con_mem hx, rfl⟩)
  · refine He.str_ok X G (f (fa := .str x z) ?_)
    unfold faL
    simp only [List.mem_append, List.mem_map]
    exact .inr (.inr (.inr (.inl ⟨(x, z), con_mem2 hx, rfl⟩)))
  · refine He.cls_ok (f (fa := .cls x) ?_)
    unfold faL
    simp only [List.mem_append, List.mem_map]
    exact .inr (.inr (.inl ⟨x, con_mem hx, rfl⟩))
  · obtain ⟨h1, h2⟩ := He.ba hx
    exact mth m (con_mem h2) x (con_mem h1)
  · have hm := mth "begins" (by simp [mthU]) "Manner" (by simp [clsU])
    exact ⟨He.eqO_ok l4, hm.2, hm.3⟩
  · exact mk0_ok (List.all_eq_true.mp l2 x (con_mem hx))
  · exact He.tupB_ok l3 H
theorem law_sp {K : Frag} {H : Hp} {a : Addr} {ns : List Int} (hl : ns.length ≤ 63) (S : SqL K H a (ns.map V.int)) : toSp K spLaw [.ref a] H (fun v _ => v = .bl true) fun _ _ _ => False :=
  ⟨H, [.wls (ns.map .int)], fun _ => none, Same.refl _, .cons (.wls S (dvAll_ints ns)) .nil, (fun _ _ e => by cases e), .bl true, ⟨ns, rfl, hl, rfl⟩, fun v H' H2 _ _ r => by cases r; rfl⟩
end K95
open PySem PySem.W PySem.Calls PyProof.Rows
set_option maxHeartbeats 0 in
theorem PySem.Challenge.cw_termwide_k95_whole_ranges_by_corners_holds : PySem.Challenge.rw_termwide_k95_whole_ranges_by_corners.Holds := by
  w_on; o_law
  refine HandSHeadRun.head_any (r := OpenLaw.row PySem.Challenge.rw_termwide_k95_whole_ranges_by_corners) (q := view (OpenLaw.row PySem.Challenge.rw_termwide_k95_whole_ranges_by_corners).prog [58]) (H := K95.hk) (ob := K95.ob) (M := 6000) (loose := K95.loose) (d := HandSHeadRun.topDef (OpenLaw.row PySem.Challenge.rw_termwide_k95_whole_ranges_by_corners).prog 58) (kwd := []) K95.ob_eq
    (by kernel_rfl) (fun s => by kernel_rfl) K95.run (by kernel_rfl) (by kernel_rfl) (by kernel_rfl) (by rfl) (by first | assumption | decide +kernel) (by decide +kernel) ⟨rfl, rfl, rfl, rfl, rfl, by decide +kernel⟩ ?hw ?hc
  case hw => w_witness2
  case hc =>
    refine Z.walkG (l := PySem.Challenge.rw_termwide_k95_whole_ranges_by_corners) (n := 63) (k := 8) (x := "script") rfl (by decide) (by kernel_rfl) ⟨rfl, by decide, by decide⟩ ?F
    intro w mg fa h Y G hmg0
    obtain ⟨K, KX, c⟩ := Y
    have T := K95.txt_of KX G c
    obtain ⟨fd, F⟩ := T.says.def_ K95.i_law (d := K95.d_law) rfl
    have hmg : mg ("law" : PySem.Str) = some (.ref fa) := by
      have e : (HandSHeadRun.topDef (OpenLaw.row PySem.Challenge.rw_termwide_k95_whole_ranges_by_corners).prog 58).name = ("law" : PySem.Str) := by kernel_rfl
      rw [← e]
      exact hmg0
    have e := hmg.symm.trans (T.glo "law" (by kernel_rfl))
    cases e
    have b := L2.FunD.bindsA (ps := ["script"]) F fun _ _ _ _ _ _ us hl => match us, hl with | [_], _ => rfl
    exact ⟨K, fd, Z.toSp K K95.spLaw, KX, fun s v => b s [v] rfl, fun H a ns hl S => K95.law_sp hl S, fun base _ _ => K95.ok_law T F⟩
