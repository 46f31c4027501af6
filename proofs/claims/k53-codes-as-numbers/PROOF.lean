import PyProof.Rows.All
import Wide.All
import OpenK.AllK
import Wide.FinOn
import HandS.ForMost
import HandS.Exc
import HandS.ExcOwn
import HandS.ExcCtx
import HandS.HotCalls
import HandS.IsInst
import HandS.ExcField
import HandS.ExcIs
import KE.DataEq
import HandS.ExcInit
import KE.KExcIs
import HandS.Strs
import HandS.Replace
import PySem.Challenge.RW_oncelinks_k53_whole_codes_as_numbers
set_option Elab.async false
set_option linter.all false
set_option maxRecDepth 100000
set_option maxHeartbeats 4000000
/-! # A layer of data over HandS: what a def does, told over plain data and a small store of the lists that change. -/
namespace Once
open PySem PySem.Spec PyProof.Rows L2

/-- data: what never changes, and the names of what may -/
inductive D where
  | non | bl (b : Bool) | int (i : Int) | str (x : Str)
  | lst (xs : List D) | tup (xs : List D) | scr (ns : List Int)
  | mref (a : Addr) | exc (a : Addr) (c : Str) (dd : Option Addr) (ns : List Str) (vs : List D)

/-- a thing that may change -/
inductive MO where
  | lst (xs : List D)
  /-- an instance of the class at C: its attributes -/
  | ins (C : Addr) (ns : List Str) (vs : List D)

abbrev Mu := Addr → Option MO
def put (μ : Mu) (a : Addr) (m : MO) : Mu := fun b => if b = a then some m else μ b
def cut (μ : Mu) (a : Addr) : Mu := fun b => if b = a then none else μ b
theorem put_same {μ : Mu} {a : Addr} {m : MO} : put μ a m a = some m := if_pos rfl
theorem put_ne {μ : Mu} {a b : Addr} {m : MO} (h : b ≠ a) : put μ a m b = μ b := if_neg h
theorem cut_same {μ : Mu} {a : Addr} : cut μ a a = none := if_pos rfl
theorem cut_ne {μ : Mu} {a b : Addr} (h : b ≠ a) : cut μ a b = μ b := if_neg h
theorem put_put {μ : Mu} {a : Addr} {m n : MO} : put (put μ a m) a n = put μ a n := by
  funext b; unfold put; split <;> rfl
theorem cut_put {μ : Mu} {a : Addr} {m : MO} (h : μ a = none) : cut (put μ a m) a = μ := by
  funext b; unfold cut put; split
  · rename_i e; rw [e, h]
  · rfl
theorem put_self {μ : Mu} {a : Addr} {m : MO} (h : μ a = some m) : put μ a m = μ := by
  funext b; unfold put; split
  · rename_i e; rw [e, h]
  · rfl
theorem put_comm {μ : Mu} {a b : Addr} {m n : MO} (h : a ≠ b) : put (put μ a m) b n = put (put μ b n) a m := by
  funext c; unfold put
  by_cases h1 : c = a
  · subst h1; rw [if_neg h, if_pos rfl, if_pos rfl]
  · rw [if_neg h1, if_neg h1]

section
variable (K : PySem.W.Frag) (G : Hp)
mutual
/-- v stands for the data d, by what G tells -/
inductive At : V → D → Prop
  | non : At .non .non
  | bl (b : Bool) : At (.bl b) (.bl b)
  | int (i : Int) : At (.int i) (.int i)
  | str (x : Str) : At (.str x) (.str x)
  | lst {a : Addr} {vs : List V} {ds : List D} : Rd G a (.lst vs) → AtAll vs ds → At (.ref a) (.lst ds)
  | tup {a : Addr} {vs : List V} {ds : List D} : SqT K G a vs → AtAll vs ds → At (.ref a) (.tup ds)
  | scr {a : Addr} {ns : List Int} : SqL K G a (ns.map V.int) → At (.ref a) (.scr ns)
  | mref (a : Addr) : At (.ref a) (.mref a)
  | exc0 (a : Addr) (c : Str) : At (.ref a) (.exc a c none [] [])
  | exc {a d : Addr} {c : Str} {fv : List (Str × V)} {ns : List Str} {ds : List D} : G d = some (.xd fv) → fv.map (·.1) = ns → AtAll (fv.map (·.2)) ds → At (.ref a) (.exc a c (some d) ns ds)
inductive AtAll : List V → List D → Prop
  | nil : AtAll [] []
  | cons {v : V} {vs : List V} {d : D} {ds : List D} : At v d → AtAll vs ds → AtAll (v :: vs) (d :: ds)
end
end

theorem sameT {K : PySem.W.Frag} {H H' : Hp} {a : Addr} {xs : List V} (e : Same H H') (h : SqT K H a xs) : SqT K H' a xs := by
  rcases h with (h | ⟨o, h⟩) | h
  · exact .inl (.inl (e _ _ h))
  · exact .inl (.inr ⟨o, e _ _ h⟩)
  · exact .inr h

theorem rdUp {H H' : Hp} {a : Addr} {u : HO} (e : Same H H') (h : Rd H a u) : Rd H' a u := by
  rcases h with h | ⟨o, h⟩
  · exact .inl (e _ _ h)
  · exact .inr ⟨o, e _ _ h⟩
section
variable {K : PySem.W.Frag} {G G' H H' : Hp}
mutual
theorem At.up (S : Same G G') : ∀ {v : V} {d : D}, At K G v d → At K G' v d
  | _, _, .non => .non
  | _, _, .bl b => .bl b
  | _, _, .int i => .int i
  | _, _, .str x => .str x
  | _, _, .lst h r => .lst (rdUp S h) (AtAll.up S r)
  | _, _, .tup h r => .tup (sameT S h) (AtAll.up S r)
  | _, _, .scr h => .scr (S.seq h)
  | _, _, .mref a => .mref a
  | _, _, .exc0 a c => .exc0 a c
  | _, _, .exc h e r => .exc (S _ _ h) e (AtAll.up S r)
theorem AtAll.up (S : Same G G') : ∀ {vs : List V} {ds : List D}, AtAll K G vs ds → AtAll K G' vs ds
  | _, _, .nil => .nil
  | _, _, .cons h r => .cons (h.up S) (AtAll.up S r)
end
theorem AtAll.length : ∀ {vs : List V} {ds : List D}, AtAll K G vs ds → vs.length = ds.length
  | _, _, .nil => rfl
  | _, _, .cons _ r => by rw [List.length_cons, List.length_cons, AtAll.length r]
theorem AtAll.get : ∀ {vs : List V} {ds : List D} {i : Nat} {d : D}, AtAll K G vs ds → ds[i]? = some d → ∃ v, vs[i]? = some v ∧ At K G v d
  | _, _, _, _, .nil, e => by simp at e
  | _, _, 0, _, .cons h _, e => by simp at e; subst e; exact ⟨_, rfl, h⟩
  | _, _, i + 1, d, .cons _ r, e => by
    obtain ⟨v, h1, h2⟩ := AtAll.get (i := i) (d := d) r (by simpa using e)
    exact ⟨v, by simpa using h1, h2⟩
theorem AtAll.getV : ∀ {vs : List V} {ds : List D} {i : Nat} {v : V}, AtAll K G vs ds → vs[i]? = some v → ∃ d, ds[i]? = some d ∧ At K G v d
  | _, _, _, _, .nil, e => by simp at e
  | _, _, 0, _, .cons h _, e => by simp at e; subst e; exact ⟨_, rfl, h⟩
  | _, _, i + 1, d, .cons _ r, e => by
    obtain ⟨v, h1, h2⟩ := AtAll.getV (i := i) (v := d) r (by simpa using e)
    exact ⟨v, by simpa using h1, h2⟩
theorem AtAll.append : ∀ {vs ws : List V} {ds es : List D}, AtAll K G vs ds → AtAll K G ws es → AtAll K G (vs ++ ws) (ds ++ es)
  | _, _, _, _, .nil, s => s
  | _, _, _, _, .cons h r, s => .cons h (AtAll.append r s)
theorem AtAll.take : ∀ {vs : List V} {ds : List D} (n : Nat), AtAll K G vs ds → AtAll K G (vs.take n) (ds.take n)
  | _, _, 0, _ => .nil
  | _, _, _ + 1, .nil => .nil
  | _, _, n + 1, .cons h r => .cons h (AtAll.take n r)
theorem AtAll.drop : ∀ {vs : List V} {ds : List D} (n : Nat), AtAll K G vs ds → AtAll K G (vs.drop n) (ds.drop n)
  | _, _, 0, r => r
  | _, _, _ + 1, .nil => .nil
  | _, _, n + 1, .cons _ r => AtAll.drop n r
theorem AtAll.set : ∀ {vs : List V} {ds : List D} (i : Nat) {v : V} {d : D}, At K G v d → AtAll K G vs ds → AtAll K G (vs.set i v) (ds.set i d)
  | _, _, _, _, _, _, .nil => .nil
  | _, _, 0, _, _, h, .cons _ t => .cons h t
  | _, _, i + 1, _, _, h, .cons q t => .cons q (AtAll.set i h t)
theorem AtAll.reverse : ∀ {vs : List V} {ds : List D}, AtAll K G vs ds → AtAll K G vs.reverse ds.reverse
  | _, _, .nil => .nil
  | _, _, .cons h r => by rw [List.reverse_cons, List.reverse_cons]; exact (AtAll.reverse r).append (.cons h .nil)
theorem AtAll.ints : ∀ (ns : List Int), AtAll K G (ns.map V.int) (ns.map D.int)
  | [] => .nil
  | n :: r => .cons (.int n) (AtAll.ints r)
theorem AtAll.dropLast : ∀ {vs : List V} {ds : List D}, AtAll K G vs ds → AtAll K G vs.dropLast ds.dropLast := fun {vs ds} r => by
  rw [List.dropLast_eq_take, List.dropLast_eq_take, r.length]
  exact r.take _

/-- how a changing thing stands at a -/
def MoAt (K : PySem.W.Frag) (G H : Hp) (a : Addr) : MO → Prop
  | .lst xs => ∃ vs, H a = some (.lst vs) ∧ AtAll K G vs xs
  | .ins C ns ds => ∃ dx fv, H a = some (.ins C dx fv) ∧ fv.map (·.1) = ns ∧ AtAll K G (fv.map (·.2)) ds
structure Rep (K : PySem.W.Frag) (G H : Hp) (μ : Mu) : Prop where
  sub : Same G H
  mu : ∀ a m, μ a = some m → G a = none ∧ MoAt K G H a m
theorem same_upd {H : Hp} {p : Addr} {o : HO} (h : H p = none) : Same H (upd H p o) := fun b u e => by
  rw [upd_ne (ne_of_none e h)]; exact e
theorem MoAt.there {a : Addr} {m : MO} (h : MoAt K G H a m) : ∃ o, H a = some o := by
  cases m with
  | lst xs => obtain ⟨vs, e, _⟩ := h; exact ⟨_, e⟩
  | ins C ns ds => obtain ⟨dx, fv, e, _⟩ := h; exact ⟨_, e⟩
theorem Rep.new {μ : Mu} {p : Addr} {o : HO} (R : Rep K G H μ) (hp : H p = none) : Rep K (upd G p o) (upd H p o) μ := by
  have gp := R.sub.free hp
  refine ⟨fun b u e => ?_, fun a m e => ?_⟩
  · by_cases hb : b = p
    · subst hb; rw [upd_same] at e ⊢; exact e
    · rw [upd_ne hb] at e ⊢; exact R.sub b u e
  · obtain ⟨ga, q⟩ := R.mu a m e
    obtain ⟨o', ha⟩ := q.there
    have hne : a ≠ p := ne_of_none ha hp
    refine ⟨by rw [upd_ne hne]; exact ga, ?_⟩
    cases m with
    | lst xs => obtain ⟨vs, e1, e2⟩ := q; exact ⟨vs, by rw [upd_ne hne]; exact e1, e2.up (same_upd gp)⟩
    | ins C ns ds => obtain ⟨dx, fv, e1, e2, e3⟩ := q; exact ⟨dx, fv, by rw [upd_ne hne]; exact e1, e2, e3.up (same_upd gp)⟩
theorem Rep.fresh {μ : Mu} {p : Addr} (R : Rep K G H μ) (hp : H p = none) : μ p = none := by
  cases e : μ p with
  | none => rfl
  | some m =>
    obtain ⟨o, ho⟩ := (R.mu p m e).2.there
    rw [ho] at hp; cases hp
/-- a thing at a is laid anew or changed -/
theorem Rep.lay {μ : Mu} {a : Addr} {vs : List V} {xs : List D} (R : Rep K G H μ) (ga : G a = none) (h : AtAll K G vs xs) : Rep K G (upd H a (.lst vs)) (put μ a (.lst xs)) := by
  refine ⟨fun b u e => ?_, fun b m e => ?_⟩
  · have hb : b ≠ a := ne_of_none e ga
    rw [upd_ne hb]; exact R.sub b u e
  · by_cases hb : b = a
    · subst hb
      rw [put_same] at e; cases e
      exact ⟨ga, vs, upd_same, h⟩
    · rw [put_ne hb] at e
      obtain ⟨gb, q⟩ := R.mu b m e
      refine ⟨gb, ?_⟩
      cases m with
      | lst ys => obtain ⟨ws, e1, e2⟩ := q; exact ⟨ws, by rw [upd_ne hb]; exact e1, e2⟩
      | ins C ns ds => obtain ⟨dx, fv, e1, e2, e3⟩ := q; exact ⟨dx, fv, by rw [upd_ne hb]; exact e1, e2, e3⟩
theorem Rep.layI {μ : Mu} {a C dx : Addr} {fv : List (Str × V)} {ns : List Str} {ds : List D} (R : Rep K G H μ) (ga : G a = none) (hn : fv.map (·.1) = ns) (h : AtAll K G (fv.map (·.2)) ds) : Rep K G (upd H a (.ins C dx fv)) (put μ a (.ins C ns ds)) := by
  refine ⟨fun b u e => ?_, fun b m e => ?_⟩
  · have hb : b ≠ a := ne_of_none e ga
    rw [upd_ne hb]; exact R.sub b u e
  · by_cases hb : b = a
    · subst hb
      rw [put_same] at e; cases e
      exact ⟨ga, dx, fv, upd_same, hn, h⟩
    · rw [put_ne hb] at e
      obtain ⟨gb, q⟩ := R.mu b m e
      refine ⟨gb, ?_⟩
      cases m with
      | lst ys => obtain ⟨ws, e1, e2⟩ := q; exact ⟨ws, by rw [upd_ne hb]; exact e1, e2⟩
      | ins C ns ds => obtain ⟨dx, fv, e1, e2, e3⟩ := q; exact ⟨dx, fv, by rw [upd_ne hb]; exact e1, e2, e3⟩
/-- a thing changes no more -/
theorem Rep.freeze {μ : Mu} {a : Addr} {xs : List D} (R : Rep K G H μ) (h : μ a = some (.lst xs)) : ∃ vs, AtAll K G vs xs ∧ Same G (upd G a (.lst vs)) ∧ Rep K (upd G a (.lst vs)) H (cut μ a) ∧ At K (upd G a (.lst vs)) (.ref a) (.lst xs) := by
  obtain ⟨ga, vs, e1, e2⟩ := R.mu a _ h
  have S : Same G (upd G a (.lst vs)) := same_upd ga
  refine ⟨vs, e2, S, ⟨fun b u e => ?_, fun b m e => ?_⟩, .lst (.of upd_same) (e2.up S)⟩
  · by_cases hb : b = a
    · subst hb; rw [upd_same] at e; rw [e1]; exact e
    · rw [upd_ne hb] at e; exact R.sub b u e
  · by_cases hb : b = a
    · subst hb; rw [cut_same] at e; cases e
    · rw [cut_ne hb] at e
      obtain ⟨gb, q⟩ := R.mu b m e
      refine ⟨by rw [upd_ne hb]; exact gb, ?_⟩
      cases m with
      | lst ys => obtain ⟨ws, e1, e2⟩ := q; exact ⟨ws, e1, e2.up S⟩
      | ins C ns ds => obtain ⟨dx, fv, e1, e2, e3⟩ := q; exact ⟨dx, fv, e1, e2, e3.up S⟩
theorem Rep.drop {μ : Mu} {a : Addr} (R : Rep K G H μ) : Rep K G H (cut μ a) := ⟨R.sub, fun b m e => by
  by_cases hb : b = a
  · subst hb; rw [cut_same] at e; cases e
  · rw [cut_ne hb] at e; exact R.mu b m e⟩
end

/-! ### readings over data -/
abbrev St := L2.St
abbrev Ds := List (Option D)
abbrev Fs := List Str × List D
abbrev DX := Ds → Str → Fs → Mu → Prop
abbrev DK := D → Mu → Prop
abbrev DE := Ds → Mu → DX → DK → Prop
abbrev DT := Ds → Mu → DX → (Bool → Mu → Prop) → Prop
abbrev DA := Ds → Mu → DX → (List D → Mu → Prop) → Prop
structure DEnds where
  nx : Ds → Mu → Prop
  rt : DK
  bk : Ds → Mu → Prop
  ct : Ds → Mu → Prop
  ex : DX
abbrev DS := DEnds → Ds → Mu → Prop

def SlotsAt (K : PySem.W.Frag) (G : Hp) (σ : St) (δ : Ds) : Prop := σ.length = δ.length ∧ ∀ (i : Nat) (d : D), δ[i]? = some (some d) → ∃ v, σ[i]? = some (some v) ∧ At K G v d
section
variable {K : PySem.W.Frag} {G G' H H' : Hp} {σ : St} {δ : Ds}
theorem SlotsAt.up (S : Same G G') (h : SlotsAt K G σ δ) : SlotsAt K G' σ δ := ⟨h.1, fun i d e => let ⟨v, h1, h2⟩ := h.2 i d e; ⟨v, h1, h2.up S⟩⟩
theorem SlotsAt.set {i : Nat} {v : V} {d : D} (h : SlotsAt K G σ δ) (a : At K G v d) : SlotsAt K G (σ.set i (some v)) (δ.set i (some d)) := by
  refine ⟨by rw [List.length_set, List.length_set]; exact h.1, fun j d' e => ?_⟩
  by_cases hj : i = j
  · subst hj
    rw [List.getElem?_set_self'] at e
    have hl : i < δ.length := by
      cases q : δ[i]? with
      | none => rw [q] at e; simp at e
      | some z => exact (List.getElem?_eq_some_iff.mp q).1
    rw [List.getElem?_eq_getElem hl] at e
    simp at e
    subst e
    exact ⟨v, by rw [List.getElem?_set_self (by rw [h.1]; exact hl)], a⟩
  · rw [List.getElem?_set_ne hj] at e
    obtain ⟨w, e1, e2⟩ := h.2 j d' e
    exact ⟨w, by rw [List.getElem?_set_ne hj]; exact e1, e2⟩
theorem SlotsAt.setN {i : Nat} (h : SlotsAt K G σ δ) : SlotsAt K G (σ.set i none) (δ.set i none) := by
  refine ⟨by rw [List.length_set, List.length_set]; exact h.1, fun j d' e => ?_⟩
  by_cases hj : i = j
  · subst hj
    rw [List.getElem?_set_self'] at e
    cases q : δ[i]? with
    | none => rw [q] at e; simp at e
    | some z => rw [q] at e; simp at e
  · rw [List.getElem?_set_ne hj] at e
    obtain ⟨w, e1, e2⟩ := h.2 j d' e
    exact ⟨w, by rw [List.getElem?_set_ne hj]; exact e1, e2⟩
end

/-- an exception of the class named c, with these fields -/
def XAt (K : PySem.W.Frag) (mg : Str → Option Value) (G : Hp) (c : Str) (fs : Fs) (cls : Value) (dd : Option Addr) : Prop :=
  ∃ C : Addr, cls = .ref C ∧ mg c = some (.ref C) ∧ ((dd = none ∧ fs = ([], [])) ∨ ∃ (d : Addr) (fv : List (Str × V)), dd = some d ∧ G d = some (.xd fv) ∧ fv.map (·.1) = fs.1 ∧ AtAll K G (fv.map (·.2)) fs.2)

/-- what is to hold of a value and the store, said of a V and the heap -/
def FinV (K : PySem.W.Frag) (G : Hp) (k : DK) (Q : VK) : Prop := ∀ G' H' v r μ', Same G G' → Rep K G' H' μ' → At K G' v r → k r μ' → Q v H'
def FinB (K : PySem.W.Frag) (G : Hp) (k : Bool → Mu → Prop) (Q : Bool → Hp → Prop) : Prop := ∀ G' H' b μ', Same G G' → Rep K G' H' μ' → k b μ' → Q b H'
def FinA (K : PySem.W.Frag) (n : Nat) (G : Hp) (k : List D → Mu → Prop) (Q : List V → Hp → Prop) : Prop := ∀ G' H' vs ds μ', Same G G' → Rep K G' H' μ' → AtAll K G' vs ds → ds.length = n → k ds μ' → Q vs H'
def FinX (K : PySem.W.Frag) (mg : Str → Option Value) (W : WX) (G : Hp) (x : DX) : Prop :=
  ∀ G' H' σ' δ' c fs cls dd μ', Same G G' → Rep K G' H' μ' → SlotsAt K G' σ' δ' → XAt K mg G' c fs cls dd → x δ' c fs μ' → W cls dd σ' H'
def FinN (K : PySem.W.Frag) (G : Hp) (k : Ds → Mu → Prop) (Q : St → Hp → Prop) : Prop := ∀ G' H' σ' δ' μ', Same G G' → Rep K G' H' μ' → SlotsAt K G' σ' δ' → k δ' μ' → Q σ' H'
section
variable {K : PySem.W.Frag} {mg : Str → Option Value} {W : WX} {G G' H H' : Hp} {n : Nat}
theorem FinV.up {k : DK} {Q : VK} (S : Same G G') (f : FinV K G k Q) : FinV K G' k Q := fun G2 H2 v r μ s => f G2 H2 v r μ (S.trans s)
theorem FinB.up {k : Bool → Mu → Prop} {Q : Bool → Hp → Prop} (S : Same G G') (f : FinB K G k Q) : FinB K G' k Q := fun G2 H2 b μ s => f G2 H2 b μ (S.trans s)
theorem FinA.up {k : List D → Mu → Prop} {Q : List V → Hp → Prop} (S : Same G G') (f : FinA K n G k Q) : FinA K n G' k Q := fun G2 H2 v r μ s => f G2 H2 v r μ (S.trans s)
theorem FinX.up {x : DX} (S : Same G G') (f : FinX K mg W G x) : FinX K mg W G' x := fun G2 H2 σ δ c fs cls dd μ s => f G2 H2 σ δ c fs cls dd μ (S.trans s)
theorem FinN.up {k : Ds → Mu → Prop} {Q : St → Hp → Prop} (S : Same G G') (f : FinN K G k Q) : FinN K G' k Q := fun G2 H2 σ δ μ s => f G2 H2 σ δ μ (S.trans s)
end

def liftE (K : PySem.W.Frag) (mg : Str → Option Value) (W : WX) (d : DE) : TE := fun σ H Q => ∃ (G : Hp) (δ : Ds) (μ : Mu) (x : DX) (k : DK), Rep K G H μ ∧ SlotsAt K G σ δ ∧ d δ μ x k ∧ FinV K G k Q ∧ FinX K mg W G x
def liftT (K : PySem.W.Frag) (mg : Str → Option Value) (W : WX) (d : DT) : TT := fun σ H Q => ∃ (G : Hp) (δ : Ds) (μ : Mu) (x : DX) (k : Bool → Mu → Prop), Rep K G H μ ∧ SlotsAt K G σ δ ∧ d δ μ x k ∧ FinB K G k Q ∧ FinX K mg W G x
def liftA (K : PySem.W.Frag) (mg : Str → Option Value) (W : WX) (n : Nat) (d : DA) : TA := fun σ H Q => ∃ (G : Hp) (δ : Ds) (μ : Mu) (x : DX) (k : List D → Mu → Prop), Rep K G H μ ∧ SlotsAt K G σ δ ∧ d δ μ x k ∧ FinA K n G k Q ∧ FinX K mg W G x
structure FinS (K : PySem.W.Frag) (mg : Str → Option Value) (W : WX) (G : Hp) (E : DEnds) (T : Ends) : Prop where
  nx : FinN K G E.nx T.nx
  rt : FinV K G E.rt T.rt
  bk : FinN K G E.bk T.bk
  ct : FinN K G E.ct T.ct
  ex : FinX K mg W G E.ex
theorem FinS.up {K : PySem.W.Frag} {mg : Str → Option Value} {W : WX} {G G' : Hp} {E : DEnds} {T : Ends} (S : Same G G') (f : FinS K mg W G E T) : FinS K mg W G' E T := ⟨f.nx.up S, f.rt.up S, f.bk.up S, f.ct.up S, f.ex.up S⟩
def liftS (K : PySem.W.Frag) (mg : Str → Option Value) (W : WX) (d : DS) : TS := fun T σ H => ∃ (G : Hp) (δ : Ds) (μ : Mu) (E : DEnds), Rep K G H μ ∧ SlotsAt K G σ δ ∧ d E δ μ ∧ FinS K mg W G E T

abbrev QE (X : Cx) (W : WX) (e : Expr) (d : DE) : Prop := PE X e (liftE X.K X.mg W d)
abbrev QT (X : Cx) (W : WX) (e : Expr) (d : DT) : Prop := PT X e (liftT X.K X.mg W d)
abbrev QW (X : Cx) (W : WX) (e : Expr) (d : DT) : Prop := PW X e (liftT X.K X.mg W d)
abbrev QA (X : Cx) (W : WX) (es : List Expr) (d : DA) : Prop := PA X es (liftA X.K X.mg W es.length d)
abbrev QS (X : Cx) (W : WX) (st : Stmt) (d : DS) : Prop := PS X st (liftS X.K X.mg W d)
abbrev QSs (X : Cx) (W : WX) (st : List Stmt) (d : DS) : Prop := PSs X st (liftS X.K X.mg W d)

theorem imE {X : Cx} {e : Expr} {t t' : TE} (h : PE X e t) (i : ∀ σ H Q, t' σ H Q → t σ H Q) : PE X e t' := ⟨fun pins s σ H Q I q => h.run pins s σ H Q I (i σ H Q q)⟩
theorem imT {X : Cx} {e : Expr} {t t' : TT} (h : PT X e t) (i : ∀ σ H Q, t' σ H Q → t σ H Q) : PT X e t' := ⟨fun pins s σ H Q I q => h.run pins s σ H Q I (i σ H Q q)⟩
theorem imW {X : Cx} {e : Expr} {t t' : TT} (h : PW X e t) (i : ∀ σ H Q, t' σ H Q → t σ H Q) : PW X e t' := ⟨fun wh pins s σ H Q I q => h.run wh pins s σ H Q I (i σ H Q q)⟩
theorem imA {X : Cx} {es : List Expr} {t t' : TA} (h : PA X es t) (i : ∀ σ H Q, t' σ H Q → t σ H Q) : PA X es t' := ⟨fun pos pins s σ H Q I q => h.run pos pins s σ H Q I (i σ H Q q)⟩
theorem imS {X : Cx} {st : Stmt} {t t' : TS} (h : PS X st t) (i : ∀ D σ H, t' D σ H → t D σ H) : PS X st t' := ⟨fun pins s σ H D I q => h.run pins s σ H D I (i D σ H q)⟩
theorem imSs {X : Cx} {st : List Stmt} {t t' : TS} (h : PSs X st t) (i : ∀ D σ H, t' D σ H → t D σ H) : PSs X st t' := ⟨fun pins s σ H D I q => h.run pins s σ H D I (i D σ H q)⟩

/-! ### names, constants, arguments -/
def dVar (i : Nat) : DE := fun δ μ _ k => ∃ d, δ[i]? = some (some d) ∧ k d μ
def dC (c : D) : DE := fun _ μ _ k => k c μ
def dNil : DA := fun _ μ _ k => k [] μ
def dCons (a : DE) (r : DA) : DA := fun δ μ x k => a δ μ x fun d μ1 => r δ μ1 x fun ds μ2 => k (d :: ds) μ2
def dTup (t : DA) : DE := fun δ μ x k => t δ μ x fun ds μ1 => k (.tup ds) μ1
/-- a list that stays -/
def dLst (t : DA) : DE := fun δ μ x k => t δ μ x fun ds μ1 => k (.lst ds) μ1
/-- a list that may change -/
def dNew (t : DA) : DE := fun δ μ x k => t δ μ x fun ds μ1 => ∀ a, μ1 a = none → k (.mref a) (put μ1 a (.lst ds))
section
variable {X : Cx} {W : WX} {e a b : Expr} {es : List Expr} {da db : DE} {t : DA} {pos : Pos}
theorem qv (i : Nat) {x : Str} {pos : Pos} (hN : X.N[i]? = some x := by rfl) (hv : Vis X.env.scope x := by first | exact Or.inl rfl | exact Or.inr (Or.inl rfl) | exact Or.inr (Or.inr rfl)) (hd : (x == ("__debug__" : Str)) = false := by decide)
    (hcd : (x == ("__classdict__" : Str)) = false := by decide) : QE X W (.Name x pos) (dVar i) := imE (pe_var hN hv hd hcd) fun σ H Q ⟨G, δ, μ, x, k, R, S, ⟨d, e, q⟩, f, _⟩ => by
  obtain ⟨v, e1, a1⟩ := S.2 i d e
  exact ⟨v, e1, f G H v d μ (Same.refl _) R a1 q⟩
theorem qc {v : V} {c : D} (h : PE X e (tC v)) (hv : ∀ G, At X.K G v c) : QE X W e (dC c) := imE h fun σ H Q ⟨G, δ, μ, x, k, R, S, q, f, _⟩ => f G H v c μ (Same.refl _) R (hv G) q
theorem q_int {i : Int} {j : Nat} : QE X W (.Constant (.int i) j pos) (dC (.int i)) := qc pe_int fun _ => .int i
theorem q_bl {b : Bool} {j : Nat} : QE X W (.Constant (.bool b) j pos) (dC (.bl b)) := qc pe_bl fun _ => .bl b
theorem q_non {j : Nat} : QE X W (.Constant .none j pos) (dC .non) := qc pe_non fun _ => .non
theorem q_str {x : Str} {j : Nat} : QE X W (.Constant (.str x) j pos) (dC (.str x)) := qc pe_str fun _ => .str x
theorem qa_nil : QA X W [] dNil := imA pa_nil fun σ H Q ⟨G, δ, μ, x, k, R, S, q, f, _⟩ => f G H [] [] μ (Same.refl _) R .nil rfl q
theorem qa_cons (ha : QE X W e da) (hr : QA X W es t) (hs : starEach (e :: es) X.env = (false, eval e X.env) :: starEach es X.env := by rfl) : QA X W (e :: es) (dCons da t) :=
  imA (pa_cons ha hr hs) fun σ H Q ⟨G, δ, μ, x, k, R, S, q, f, fx⟩ =>
    ⟨G, δ, μ, x, _, R, S, q, fun G1 H1 v d μ1 S1 R1 A1 q1 =>
      ⟨G1, δ, μ1, x, _, R1, S.up S1, q1, fun G2 H2 vs ds μ2 S2 R2 A2 hn q2 => f G2 H2 (v :: vs) (d :: ds) μ2 (S1.trans S2) R2 (.cons (A1.up S2) A2) (by rw [List.length_cons, hn]; rfl) q2, fx.up S1⟩, fx⟩
theorem q_tup {j : Nat} (h : QA X W es t) (hl : es.length ≤ 1000 := by decide) : QE X W (.Tuple es j pos) (dTup t) :=
  imE (pe_tup h) fun σ H Q ⟨G, δ, μ, x, k, R, S, q, f, fx⟩ =>
    ⟨G, δ, μ, x, _, R, S, q, fun G1 H1 vs ds μ1 S1 R1 A1 hn q1 => ⟨Nat.le_of_lt (small1000 (by rw [A1.length, hn]; exact hl)), fun p hp => by
      have gp := R1.sub.free hp
      exact f (upd G1 p (.tup vs)) _ (.ref p) (.tup ds) μ1 (S1.trans (same_upd gp)) (R1.new hp) (.tup (.of upd_same) (A1.up (same_upd gp))) q1⟩, fx⟩
theorem q_lst (h : QA X W es t) (hl : es.length ≤ 1000 := by decide) : QE X W (.List es pos) (dLst t) :=
  imE (pe_lst h) fun σ H Q ⟨G, δ, μ, x, k, R, S, q, f, fx⟩ =>
    ⟨G, δ, μ, x, _, R, S, q, fun G1 H1 vs ds μ1 S1 R1 A1 hn q1 => ⟨Nat.le_of_lt (small1000 (by rw [A1.length, hn]; exact hl)), fun p hp => by
      have gp := R1.sub.free hp
      exact f (upd G1 p (.lst vs)) _ (.ref p) (.lst ds) μ1 (S1.trans (same_upd gp)) (R1.new hp) (.lst (.of upd_same) (A1.up (same_upd gp))) q1⟩, fx⟩
theorem q_new (h : QA X W es t) (hl : es.length ≤ 1000 := by decide) : QE X W (.List es pos) (dNew t) :=
  imE (pe_lst h) fun σ H Q ⟨G, δ, μ, x, k, R, S, q, f, fx⟩ =>
    ⟨G, δ, μ, x, _, R, S, q, fun G1 H1 vs ds μ1 S1 R1 A1 hn q1 => ⟨Nat.le_of_lt (small1000 (by rw [A1.length, hn]; exact hl)), fun p hp =>
      f G1 _ (.ref p) (.mref p) _ S1 (R1.lay (R1.sub.free hp) A1) (.mref p) (q1 p (R1.fresh hp))⟩, fx⟩
end
end Once

namespace Once
open PySem PySem.Spec PyProof.Rows L2

/-! ### data as the library's -/
mutual
def toPy : D → PyData
  | .non => .none
  | .bl b => .bool b
  | .int i => .int i
  | .str x => .str x
  | .lst xs => .list (toPys xs)
  | .tup xs => .tuple (toPys xs)
  | .scr ns => .list (ns.map PyData.int)
  | .mref _ => .none
  | .exc _ _ _ _ _ => .none
def toPys : List D → List PyData
  | [] => []
  | x :: xs => toPy x :: toPys xs
end
mutual
/-- nothing in it may change -/
def okD : D → Bool
  | .lst xs => okDs xs
  | .tup xs => okDs xs
  | .mref _ => false
  | .exc _ _ _ _ _ => false
  | _ => true
def okDs : List D → Bool
  | [] => true
  | x :: xs => okD x && okDs xs
end
mutual
def deepD : D → Nat
  | .lst xs => deepDs xs + 1
  | .tup xs => deepDs xs + 1
  | .scr _ => 1
  | _ => 0
def deepDs : List D → Nat
  | [] => 0
  | x :: xs => max (deepD x) (deepDs xs)
end
def eqD (d e : D) : Bool := PyData.eqv (toPy d) (toPy e)
theorem depth_ints : ∀ ns : List Int, PyData.depthAll (ns.map PyData.int) = 0
  | [] => by simp [PyData.depthAll]
  | n :: r => by rw [List.map_cons, PyData.depthAll, depth_ints r]; simp [PyData.depth]
theorem plain_ints : ∀ ns : List Int, PyData.plainAll (ns.map PyData.int) = true
  | [] => by simp [PyData.plainAll]
  | n :: r => by rw [List.map_cons, PyData.plainAll, plain_ints r]; simp [PyData.plain]
mutual
theorem deep_py : ∀ d : D, (toPy d).depth ≤ deepD d
  | .non => by simp [toPy, PyData.depth]
  | .bl b => by simp [toPy, PyData.depth]
  | .int i => by simp [toPy, PyData.depth]
  | .str x => by simp [toPy, PyData.depth]
  | .lst xs => by have := deep_pys xs; simp only [toPy, PyData.depth, deepD]; omega
  | .tup xs => by have := deep_pys xs; simp only [toPy, PyData.depth, deepD]; omega
  | .scr ns => by simp only [toPy, PyData.depth, deepD, depth_ints]; omega
  | .mref _ => by simp [toPy, PyData.depth]
  | .exc _ _ _ _ _ => by simp [toPy, PyData.depth]
theorem deep_pys : ∀ ds : List D, PyData.depthAll (toPys ds) ≤ deepDs ds
  | [] => by simp [toPys, PyData.depthAll]
  | x :: xs => by have h1 := deep_py x; have h2 := deep_pys xs; simp only [toPys, PyData.depthAll, deepDs]; omega
end
mutual
theorem plain_py : ∀ d : D, (toPy d).plain = true
  | .non => by simp [toPy, PyData.plain]
  | .bl b => by simp [toPy, PyData.plain]
  | .int i => by simp [toPy, PyData.plain]
  | .str x => by simp [toPy, PyData.plain]
  | .lst xs => by have := plain_pys xs; simpa only [toPy, PyData.plain] using this
  | .tup xs => by have := plain_pys xs; simpa only [toPy, PyData.plain] using this
  | .scr ns => by simp only [toPy, PyData.plain, plain_ints]
  | .mref _ => by simp [toPy, PyData.plain]
  | .exc _ _ _ _ _ => by simp [toPy, PyData.plain]
theorem plain_pys : ∀ ds : List D, PyData.plainAll (toPys ds) = true
  | [] => by simp [toPys, PyData.plainAll]
  | x :: xs => by have h1 := plain_py x; have h2 := plain_pys xs; simp only [toPys, PyData.plainAll, h1, h2, Bool.and_self]
end
theorem dp_ints {K : PySem.W.Frag} {H : Hp} : ∀ ns : List Int, DpAll K H (ns.map V.int) (ns.map PyData.int)
  | [] => .nil
  | n :: r => .cons (.int n) (dp_ints r)
mutual
theorem dp_of {K : PySem.W.Frag} {G H : Hp} (S : Same G H) : ∀ {v : V} {d : D}, At K G v d → okD d = true → Dp K H v (toPy d)
  | _, _, .non, _ => by simpa only [toPy] using Dp.non
  | _, _, .bl b, _ => by simpa only [toPy] using Dp.bl b
  | _, _, .int i, _ => by simpa only [toPy] using Dp.int i
  | _, _, .str x, _ => by simpa only [toPy] using Dp.str x
  | _, _, .lst h r, o => by simpa only [toPy] using Dp.lst (.inl (rdUp S h)) (dps_of S r (by simpa [okD] using o))
  | _, _, .tup h r, o => by simpa only [toPy] using Dp.tup (sameT S h) (dps_of S r (by simpa [okD] using o))
  | _, _, .scr (ns := ns) h, _ => by simpa only [toPy] using Dp.lst (S.seq h) (dp_ints ns)
  | _, _, .mref a, o => by simp [okD] at o
  | _, _, .exc0 a c, o => by simp [okD] at o
  | _, _, .exc _ _ _, o => by simp [okD] at o
theorem dps_of {K : PySem.W.Frag} {G H : Hp} (S : Same G H) : ∀ {vs : List V} {ds : List D}, AtAll K G vs ds → okDs ds = true → DpAll K H vs (toPys ds)
  | _, _, .nil, _ => by simpa only [toPys] using DpAll.nil
  | _, _, .cons (d := d) (ds := ds) h r, o => by
    have o' : okD d = true ∧ okDs ds = true := by simpa [okDs] using o
    simpa only [toPys] using DpAll.cons (dp_of S h o'.1) (dps_of S r o'.2)
end

/-- the room that a def's body has -/
structure RoomD (k : Nat) (A : Around) : Prop where
  hd : A.handled = none
  gd : A.guards = some []
  dp : A.depth + k + 30 < recursionLimit
  un : A.units + 8 * k + 900 < cLine
theorem RoomD.room {k : Nat} {A : Around} (r : RoomD k A) : Room 6 A := ⟨r.hd, by have := r.dp; omega, by have := r.un; omega⟩
theorem RoomD.deeper {k : Nat} {A : Around} (r : RoomD (k + 1) A) (env : Env) : RoomD k (A.deeper env) :=
  ⟨r.hd, r.gd, by have := r.dp; show A.depth + 1 + k + 30 < _; omega, by have := r.un; show A.units + 3 + 8 * k + 900 < _; omega⟩
/-- what a body has of units, handled or not -/
def Un0 (A : Around) : Prop := A.units + 900 < cLine ∧ A.guards = some []
theorem RoomD.un0 {k : Nat} {A : Around} (r : RoomD k A) : Un0 A := ⟨by have := r.un; omega, r.gd⟩

/-! ### operators on values -/
abbrev G2 := D → D → Mu → DK → Prop
/-- what f on two values asks -/
def rW (X : Cx) (f : Value → Value → Sem Value) : R2 := fun x y H Q => ∀ (pins : List (Addr × Obj)) (s : Shared) (σ : St) (v u : Value), Inv X pins σ H s → RelV x v → RelV y u →
  wpAny (model X.prog X.w) X.A (f v u) (EP X pins σ Q) X.xe s
theorem opW {X : Cx} {f : Value → Value → Sem Value} : OpR X f (rW X f) := fun pins s σ H x y v u Q I rx ry h => h pins s σ v u I rx ry
def OpQ (X : Cx) (f : Value → Value → Sem Value) (g : G2) : Prop :=
  ∀ (G H : Hp) (μ : Mu) (x y : V) (d e : D) (k : DK) (Q : VK), Rep X.K G H μ → At X.K G x d → At X.K G y e → g d e μ k → FinV X.K G k Q → rW X f x y H Q
def dOp (g : G2) (da db : DE) : DE := fun δ μ x k => da δ μ x fun d μ1 => db δ μ1 x fun e μ2 => g d e μ2 k
/-- a rule of HandS's at these values -/
theorem byR {X : Cx} {f : Value → Value → Sem Value} {r : R2} (h : OpR X f r) {x y : V} {H : Hp} {Q : VK} (q : r x y H Q) : rW X f x y H Q := fun pins s σ v u I rx ry => h pins s σ H x y v u Q I rx ry q

section
variable {X : Cx} {W : WX} {a b : Expr} {da db : DE} {pos : Pos}
theorem im2 {r : R2} {g : G2} {K : PySem.W.Frag} {mg : Str → Option Value} (h : ∀ (G H : Hp) (μ : Mu) (x y : V) (d e : D) (k : DK) (Q : VK), Rep K G H μ → At K G x d → At K G y e → g d e μ k → FinV K G k Q → r x y H Q) :
    ∀ σ H Q, liftE K mg W (dOp g da db) σ H Q → tOp r (liftE K mg W da) (liftE K mg W db) σ H Q := fun σ H Q ⟨G, δ, μ, x, k, R, S, q, f, fx⟩ =>
  ⟨G, δ, μ, x, _, R, S, q, fun G1 H1 v d μ1 S1 R1 A1 q1 =>
    ⟨G1, δ, μ1, x, _, R1, S.up S1, q1, fun G2 H2 u e μ2 S2 R2 A2 q2 => h G2 H2 μ2 v u d e k Q R2 (A1.up S2) A2 q2 (f.up (S1.trans S2)), fx.up S1⟩, fx⟩
theorem q_op {op : Operator} {g : G2} (ho : OpQ X (binaryOp op) g) (ha : QE X W a da) (hb : QE X W b db) : QE X W (.BinOp a op b pos) (dOp g da db) :=
  imE (pe_op opW ha hb) (im2 ho)
theorem q_cmp {op : CmpOp} {g : G2} (ho : OpQ X (compareOp op) g) (ha : QE X W a da) (hb : QE X W b db) (hm : behindInMarks op b = false := by first | exact nobehind _ (by decide) (by decide) | rfl) : QE X W (.Compare a [op] [b] pos) (dOp g da db) :=
  imE (pe_cmpR opW ha hb hm) (im2 ho)
/-- .. as a test -/
def dB (t : DE) : DT := fun δ μ x k => t δ μ x fun d μ1 => ∃ b, d = .bl b ∧ k b μ1
theorem imB {K : PySem.W.Frag} {mg : Str → Option Value} {d : DE} : ∀ σ H Q, liftT K mg W (dB d) σ H Q → tTest (liftE K mg W d) σ H Q := fun σ H Q ⟨G, δ, μ, x, k, R, S, q, f, fx⟩ =>
  ⟨G, δ, μ, x, _, R, S, q, fun G1 H1 v d μ1 S1 R1 A1 ⟨b, e, q1⟩ => by
    subst e
    cases A1
    exact ⟨b, rfl, f G1 H1 b μ1 S1 R1 q1⟩, fx⟩
/-- an expression that gives True or False, as a test -/
theorem qt {e : Expr} {d : DE} (h : QE X W e d) (he : ∀ whole, isTrue e X.env whole = (do let v ← whole; standAt e.pos; holding [v] (truthy v)) := by intro _; rfl) : QT X W e (dB d) :=
  imT (pt_val h he) imB
theorem qt_cmp {op : CmpOp} {g : G2} (ho : OpQ X (compareOp op) g) (ha : QE X W a da) (hb : QE X W b db) (hm : behindInMarks op b = false := by first | exact nobehind _ (by decide) (by decide) | rfl) : QT X W (.Compare a [op] [b] pos) (dB (dOp g da db)) :=
  imT (pt_cmp (op := op) (t := liftE X.K X.mg W (dOp g da db)) ⟨fun pins s σ H Q I h => by
    refine thn (ha.run pins s σ H _ I (im2 (da := da) (db := db) ho σ H Q h)) fun v s1 ⟨x, H1, I1, r1, q1⟩ => ?_
    refine thn (hb.run pins s1 σ H1 _ I1 q1) fun u s2 ⟨y, H2, I2, r2, q2⟩ => ?_
    exact q2 pins s2 σ v u I2 r1 r2⟩ hm) imB

/-! ### a list, as it can be read -/
def seqOf (μ : Mu) : D → Option (List D)
  | .lst xs => some xs
  | .scr ns => some (ns.map D.int)
  | .mref a => match μ a with
    | some (.lst xs) => some xs
    | _ => none
  | _ => none
theorem vals_ints2 {K : PySem.W.Frag} {G : Hp} : ∀ ns : List Int, AtAll K G (ns.map V.int) (ns.map D.int) := AtAll.ints
theorem seqOf_mref {μ : Mu} {a : Addr} {xs : List D} (e : seqOf μ (.mref a) = some xs) : μ a = some (.lst xs) := by
  cases q : μ a with
  | none => simp only [seqOf, q] at e; cases e
  | some m =>
    cases m with
    | lst ys => simp only [seqOf, q] at e; cases e; rfl
    | ins C ns ds => simp only [seqOf, q] at e; cases e
theorem seq_rd {K : PySem.W.Frag} {G H : Hp} {μ : Mu} {v : V} {d : D} {xs : List D} (R : Rep K G H μ) (h : At K G v d) (e : seqOf μ d = some xs) : ∃ p vs, v = .ref p ∧ AtAll K G vs xs ∧ (Rd H p (.lst vs) ∨ ∃ ns, d = .scr ns ∧ SqL K H p vs) := by
  cases h with
  | lst h r => cases e; exact ⟨_, _, rfl, r, .inl (rdUp R.sub h)⟩
  | @scr a ns h => cases e; exact ⟨_, _, rfl, AtAll.ints _, .inr ⟨ns, rfl, R.sub.seq h⟩⟩
  | mref a =>
    obtain ⟨_, vs, e1, e2⟩ := R.mu a _ (seqOf_mref e)
    exact ⟨a, vs, rfl, e2, .inl (.of e1)⟩
  | _ => cases e
theorem seq_at {K : PySem.W.Frag} {G H : Hp} {μ : Mu} {v : V} {d : D} {xs : List D} (R : Rep K G H μ) (h : At K G v d) (e : seqOf μ d = some xs) : ∃ p vs, v = .ref p ∧ SqL K H p vs ∧ AtAll K G vs xs := by
  obtain ⟨p, vs, e1, e2, e3⟩ := seq_rd R h e
  rcases e3 with e3 | ⟨_, _, e3⟩
  · exact ⟨p, vs, e1, .inl e3, e2⟩
  · exact ⟨p, vs, e1, e3, e2⟩

/-! ### plus -/
def isScr : D → Bool
  | .scr _ => true
  | _ => false
def gAdd : G2
  | .int i, .int j => fun μ k => k (.int (i + j)) μ
  | .str a, .str b => fun μ k => a.length + b.length ≤ sizeLine ∧ k (.str (a ++ b)) μ
  | .tup xs, .tup ys => fun μ k => xs ≠ [] ∧ ys ≠ [] ∧ xs.length + ys.length ≤ sizeLine ∧ k (.tup (xs ++ ys)) μ
  | d, e => fun μ k => isScr d = false ∧ isScr e = false ∧ ∃ xs ys, seqOf μ d = some xs ∧ seqOf μ e = some ys ∧ xs.length + ys.length ≤ sizeLine ∧ k (.lst (xs ++ ys)) μ
/-- two lists that are tracked, changing or not -/
theorem cat_any : OpR X (binaryOp .Add) (fun x y H Q => ∃ l b xs zs, x = .ref l ∧ y = .ref b ∧ Rd H l (.lst xs) ∧ Rd H b (.lst zs) ∧ xs.length + zs.length ≤ sizeLine ∧ ∀ p, H p = none → Q (.ref p) (upd H p (.lst (xs ++ zs)))) := by
  intro pins s σ H x y v u Q I rx ry h
  obtain ⟨l, b, xs, zs, rfl, rfl, hH, hB, hz, q⟩ := h
  cases rx
  cases ry
  obtain ⟨z, its, n, r, e⟩ := hH.ok I.hok
  obtain ⟨z2, its2, n2, r2, e2⟩ := hB.ok I.hok
  have hl := r.length
  have hl2 := r2.length
  refine PySem.P.add_list e e2 ?_ (by rw [List.size_toArray, List.size_toArray]; omega)
  have ea : its.toArray ++ its2.toArray = (its ++ its2).toArray := by simp
  rw [ea]
  exact ⟨.ref _, _, I.lnew (t' := s.toks) (r.append r2) (by rw [List.length_append]; omega), rfl, q _ I.fresh⟩
theorem cat_lists {G H : Hp} {μ : Mu} {x y : V} {d e : D} {k : DK} {Q : VK} (R : Rep X.K G H μ) (ax : At X.K G x d) (ay : At X.K G y e) (f : FinV X.K G k Q)
    (h : isScr d = false ∧ isScr e = false ∧ ∃ xs ys, seqOf μ d = some xs ∧ seqOf μ e = some ys ∧ xs.length + ys.length ≤ sizeLine ∧ k (.lst (xs ++ ys)) μ) : rW X (binaryOp .Add) x y H Q := by
  obtain ⟨sd, se, xs, ys, e1, e2, hz, q⟩ := h
  obtain ⟨p, vs, rfl, a1, c1⟩ := seq_rd R ax e1
  obtain ⟨p2, vs2, rfl, a2, c2⟩ := seq_rd R ay e2
  have r1 : Rd H p (.lst vs) := by
    rcases c1 with c | ⟨ns, ed, _⟩
    · exact c
    · subst ed; cases sd
  have r2 : Rd H p2 (.lst vs2) := by
    rcases c2 with c | ⟨ns, ed, _⟩
    · exact c
    · subst ed; cases se
  refine byR cat_any ⟨p, p2, vs, vs2, rfl, rfl, r1, r2, by rw [a1.length, a2.length]; exact hz, fun p3 hp => ?_⟩
  have gp := R.sub.free hp
  exact f (upd G p3 (.lst (vs ++ vs2))) _ (.ref p3) (.lst (xs ++ ys)) μ (same_upd gp) (R.new hp) (.lst (.of upd_same) ((a1.append a2).up (same_upd gp))) q
theorem oq_add : OpQ X (binaryOp .Add) gAdd := by
  intro G H μ x y d e k Q R ax ay h f
  cases d with
  | int i =>
    cases e with
    | int j => cases ax; cases ay; exact byR op_add ⟨i, j, rfl, rfl, f G H _ _ μ (Same.refl _) R (.int _) h⟩
    | _ => exact cat_lists R ax ay f h
  | str a =>
    cases e with
    | str b => cases ax; cases ay; exact byR op_add_str ⟨a, b, rfl, rfl, h.1, f G H _ _ μ (Same.refl _) R (.str _) h.2⟩
    | _ => exact cat_lists R ax ay f h
  | tup xs =>
    cases e with
    | tup ys =>
      cases ax with
      | tup h1 r1 =>
        cases ay with
        | tup h2 r2 =>
          obtain ⟨n1, n2, hz, q⟩ := h
          have l1 := r1.length
          have l2 := r2.length
          refine byR op_catT ⟨_, _, _, _, rfl, rfl, sameT R.sub h1, sameT R.sub h2, fun z => n1 ?_, by omega, fun z => absurd ?_ n2, fun _ p hp => ?_⟩
          · subst z; exact List.eq_nil_of_length_eq_zero l1.symm
          · subst z; exact List.eq_nil_of_length_eq_zero l2.symm
          · have gp := R.sub.free hp
            exact f (upd G p _) _ (.ref p) (.tup _) μ (same_upd gp) (R.new hp) (.tup (.of upd_same) ((r1.append r2).up (same_upd gp))) q
    | _ => exact cat_lists R ax ay f h
  | _ => exact cat_lists R ax ay f h
end
end Once

namespace Once
open PySem PySem.Spec PyProof.Rows L2
section
variable {X : Cx} {W : WX} {a b e o : Expr} {es : List Expr} {da db : DE} {t : DA} {pos : Pos}

/-! ### ints -/
def gInt (C : Int → Int → Prop) (g : Int → Int → D) : G2
  | .int i, .int j => fun μ k => C i j ∧ k (g i j) μ
  | _, _ => fun _ _ => False
def gInt0 (g : Int → Int → D) : G2
  | .int i, .int j => fun μ k => k (g i j) μ
  | _, _ => fun _ _ => False
theorem oq_int {f : Value → Value → Sem Value} {C : Int → Int → Prop} {g : Int → Int → D} {gv : Int → Int → V} (h : OpR X f (rI C gv)) (hg : ∀ G i j, At X.K G (gv i j) (g i j)) : OpQ X f (gInt C g) := by
  intro G H μ x y d e k Q R ax ay q f
  cases d with
  | int i =>
    cases e with
    | int j => cases ax; cases ay; exact byR h ⟨i, j, rfl, rfl, q.1, f G H _ _ μ (Same.refl _) R (hg G i j) q.2⟩
    | _ => exact q.elim
  | _ => exact (show False from q).elim
theorem oq_int0 {f : Value → Value → Sem Value} {g : Int → Int → D} {gv : Int → Int → V} (h : OpR X f (rI0 gv)) (hg : ∀ G i j, At X.K G (gv i j) (g i j)) : OpQ X f (gInt0 g) := by
  intro G H μ x y d e k Q R ax ay q f
  cases d with
  | int i =>
    cases e with
    | int j => cases ax; cases ay; exact byR h ⟨i, j, rfl, rfl, f G H _ _ μ (Same.refl _) R (hg G i j) q⟩
    | _ => exact q.elim
  | _ => exact (show False from q).elim
abbrev gSub : G2 := gInt0 fun i j => .int (i - j)
abbrev gMul : G2 := gInt CMul fun i j => .int (i * j)
abbrev gDiv : G2 := gInt CDiv fun i j => .int (i / j)
abbrev gMod : G2 := gInt (fun _ j => 0 < j) fun i j => .int (i % j)
abbrev gPow : G2 := gInt CPow fun i j => .int (i ^ j.toNat)
abbrev gLt : G2 := gInt0 fun i j => .bl (decide (i < j))
abbrev gLe : G2 := gInt0 fun i j => .bl (decide (i ≤ j))
abbrev gGt : G2 := gInt0 fun i j => .bl (decide (j < i))
abbrev gGe : G2 := gInt0 fun i j => .bl (decide (j ≤ i))
theorem oq_sub : OpQ X (binaryOp .Sub) gSub := oq_int0 op_sub fun _ _ _ => .int _
theorem oq_mul : OpQ X (binaryOp .Mult) gMul := oq_int op_mul fun _ _ _ => .int _
theorem oq_div : OpQ X (binaryOp .FloorDiv) gDiv := oq_int op_fdiv fun _ _ _ => .int _
theorem oq_mod : OpQ X (binaryOp .Mod) gMod := oq_int op_mod fun _ _ _ => .int _
theorem oq_pow : OpQ X (binaryOp .Pow) gPow := oq_int op_pow fun _ _ _ => .int _
theorem oq_lt : OpQ X (compareOp .Lt) gLt := oq_int0 op_lt fun _ _ _ => .bl _
theorem oq_le : OpQ X (compareOp .LtE) gLe := oq_int0 op_le fun _ _ _ => .bl _
theorem oq_gt : OpQ X (compareOp .Gt) gGt := oq_int0 op_gt fun _ _ _ => .bl _
theorem oq_ge : OpQ X (compareOp .GtE) gGe := oq_int0 op_ge fun _ _ _ => .bl _

/-! ### == and in -/
def gEq : G2 := fun d e μ k => okD d = true ∧ okD e = true ∧ min (deepD d) (deepD e) ≤ 800 ∧ k (.bl (eqD d e)) μ
def gNe : G2 := fun d e μ k => okD d = true ∧ okD e = true ∧ min (deepD d) (deepD e) ≤ 800 ∧ k (.bl (!eqD d e)) μ
theorem min_deep {d e : D} {n : Nat} (h : min (deepD d) (deepD e) ≤ n) : min (toPy d).depth (toPy e).depth ≤ n := by
  have h1 := deep_py d; have h2 := deep_py e; omega
theorem oq_eq (hu : Un0 X.A) : OpQ X (compareOp .Eq) gEq := fun G H μ x y d e k Q R ax ay ⟨o1, o2, hm, q⟩ f pins s σ v u I rx ry => by
  obtain ⟨as, r1⟩ := Dp.reads I _ x v (dp_of R.sub ax o1) rx
  obtain ⟨bs, r2⟩ := Dp.reads I _ y u (dp_of R.sub ay o2) ry
  refine SeqAt.eq_plain r1 r2 (plain_py d) (plain_py e) (by have := min_deep hm; have := hu.1; omega) ⟨.bl _, H, I, rfl, f G H _ _ μ (Same.refl _) R (.bl _) q⟩
theorem oq_ne (hu : Un0 X.A) : OpQ X (compareOp .NotEq) gNe := fun G H μ x y d e k Q R ax ay ⟨o1, o2, hm, q⟩ f pins s σ v u I rx ry => by
  obtain ⟨as, r1⟩ := Dp.reads I _ x v (dp_of R.sub ax o1) rx
  obtain ⟨bs, r2⟩ := Dp.reads I _ y u (dp_of R.sub ay o2) ry
  refine SeqAt.ne_plain r1 r2 (plain_py d) (plain_py e) (by have := min_deep hm; have := hu.1; omega) ⟨.bl _, H, I, rfl, f G H _ _ μ (Same.refl _) R (.bl _) q⟩
/-- one sign in a text; anything in a list or a tuple -/
def anyD (d : D) (xs : List D) : Bool := xs.any fun y => eqD y d
theorem any_py (d : D) : ∀ xs : List D, (toPys xs).any (fun y => PyData.eqv y (toPy d)) = anyD d xs
  | [] => by simp [toPys, anyD]
  | x :: xs => by
    have := any_py d xs
    unfold anyD at this ⊢
    simp only [toPys, List.any_cons, this, eqD]
def gInB (p : Bool → Bool) : G2
  | .str a, .str z => fun μ k => ∃ c, a = ⟨#[c]⟩ ∧ k (.bl (p (decide (c ∈ z.cps.toList)))) μ
  | d, .tup xs => fun μ k => okD d = true ∧ okDs xs = true ∧ min (deepDs xs) (deepD d) ≤ 800 ∧ k (.bl (p (anyD d xs))) μ
  | d, e => fun μ k => ∃ xs, seqOf μ e = some xs ∧ okD d = true ∧ okDs xs = true ∧ min (deepDs xs) (deepD d) ≤ 800 ∧ k (.bl (p (anyD d xs))) μ
abbrev gIn : G2 := gInB id
abbrev gNotIn : G2 := gInB not
theorem min_deeps {d : D} {xs : List D} {n : Nat} (h : min (deepDs xs) (deepD d) ≤ n) : min (PyData.depthAll (toPys xs)) (toPy d).depth ≤ n := by
  have h1 := deep_py d; have h2 := deep_pys xs; omega
theorem in_seq (hu : Un0 X.A) {G H : Hp} {μ : Mu} {x y : V} {d e : D} {k : DK} {Q : VK} (R : Rep X.K G H μ) (ax : At X.K G x d) (ay : At X.K G y e) (f : FinV X.K G k Q)
    (h : ∃ xs, seqOf μ e = some xs ∧ okD d = true ∧ okDs xs = true ∧ min (deepDs xs) (deepD d) ≤ 800 ∧ k (.bl (anyD d xs)) μ) : rW X (compareOp .In) x y H Q := fun pins s σ v u I rx ry => by
  obtain ⟨xs, hs, o1, o2, hm, q⟩ := h
  obtain ⟨p, vs, rfl, hl, ha⟩ := seq_at R ay hs
  obtain ⟨as, r1⟩ := Dp.reads I _ x v (dp_of R.sub ax o1) rx
  obtain ⟨bs, r2⟩ := Dp.reads I (.list (toPys xs)) (.ref p) u (.lst hl (dps_of R.sub ha o2)) ry
  refine SeqAt.in_list_data r2 r1 (plain_pys xs) (plain_py d) (by have := min_deeps hm; have := hu.1; omega) ?_
  rw [any_py]
  exact ⟨.bl _, H, I, rfl, f G H _ _ μ (Same.refl _) R (.bl _) q⟩
theorem notIn_seq (hu : Un0 X.A) {G H : Hp} {μ : Mu} {x y : V} {d e : D} {k : DK} {Q : VK} (R : Rep X.K G H μ) (ax : At X.K G x d) (ay : At X.K G y e) (f : FinV X.K G k Q)
    (h : ∃ xs, seqOf μ e = some xs ∧ okD d = true ∧ okDs xs = true ∧ min (deepDs xs) (deepD d) ≤ 800 ∧ k (.bl (!anyD d xs)) μ) : rW X (compareOp .NotIn) x y H Q := fun pins s σ v u I rx ry => by
  obtain ⟨xs, hs, o1, o2, hm, q⟩ := h
  obtain ⟨p, vs, rfl, hl, ha⟩ := seq_at R ay hs
  obtain ⟨as, r1⟩ := Dp.reads I _ x v (dp_of R.sub ax o1) rx
  obtain ⟨bs, r2⟩ := Dp.reads I (.list (toPys xs)) (.ref p) u (.lst hl (dps_of R.sub ha o2)) ry
  refine SeqAt.notIn_list_data r2 r1 (plain_pys xs) (plain_py d) (by have := min_deeps hm; have := hu.1; omega) ?_
  rw [any_py]
  exact ⟨.bl _, H, I, rfl, f G H _ _ μ (Same.refl _) R (.bl _) q⟩
theorem oq_in (hu : Un0 X.A) : OpQ X (compareOp .In) gIn := by
  intro G H μ x y d e k Q R ax ay h f
  have tups : ∀ xs, At X.K G y (.tup xs) → okD d = true ∧ okDs xs = true ∧ min (deepDs xs) (deepD d) ≤ 800 ∧ k (.bl (anyD d xs)) μ → rW X (compareOp .In) x y H Q := fun xs ay' ⟨o1, o2, hm, q⟩ pins s σ v u I rx ry => by
    obtain ⟨as, r1⟩ := Dp.reads I _ x v (dp_of R.sub ax o1) rx
    have h2 := dp_of R.sub ay' (by simpa [okD] using o2)
    simp only [toPy] at h2
    obtain ⟨bs, r2⟩ := Dp.reads I _ y u h2 ry
    refine SeqAt.in_tuple_data r2 r1 (plain_pys xs) (plain_py d) (by have := min_deeps hm; have := hu.1; omega) ?_
    rw [any_py]
    exact ⟨.bl _, H, I, rfl, f G H _ _ μ (Same.refl _) R (.bl _) q⟩
  cases e with
  | tup xs => cases d <;> exact tups xs ay h
  | str z =>
    cases d with
    | str a =>
      cases ax; cases ay
      obtain ⟨c, rfl, q⟩ := h
      exact byR op_in_sign ⟨c, z, rfl, rfl, f G H _ _ μ (Same.refl _) R (.bl _) q⟩
    | _ => exact in_seq hu R ax ay f h
  | _ => cases d <;> exact in_seq hu R ax ay f h
theorem oq_notIn (hu : Un0 X.A) : OpQ X (compareOp .NotIn) gNotIn := by
  intro G H μ x y d e k Q R ax ay h f
  have tups : ∀ xs, At X.K G y (.tup xs) → okD d = true ∧ okDs xs = true ∧ min (deepDs xs) (deepD d) ≤ 800 ∧ k (.bl (!anyD d xs)) μ → rW X (compareOp .NotIn) x y H Q := fun xs ay' ⟨o1, o2, hm, q⟩ pins s σ v u I rx ry => by
    obtain ⟨as, r1⟩ := Dp.reads I _ x v (dp_of R.sub ax o1) rx
    have h2 := dp_of R.sub ay' (by simpa [okD] using o2)
    simp only [toPy] at h2
    obtain ⟨bs, r2⟩ := Dp.reads I _ y u h2 ry
    refine SeqAt.notIn_tuple_data r2 r1 (plain_pys xs) (plain_py d) (by have := min_deeps hm; have := hu.1; omega) ?_
    rw [any_py]
    exact ⟨.bl _, H, I, rfl, f G H _ _ μ (Same.refl _) R (.bl _) q⟩
  cases e with
  | tup xs => cases d <;> exact tups xs ay h
  | str z =>
    cases d with
    | str a =>
      cases ax; cases ay
      obtain ⟨c, rfl, q⟩ := h
      exact byR op_notIn_sign ⟨c, z, rfl, rfl, f G H _ _ μ (Same.refl _) R (.bl _) q⟩
    | _ => exact notIn_seq hu R ax ay f h
  | _ => cases d <;> exact notIn_seq hu R ax ay f h
/-! ### is None -/
def isNon : D → Bool
  | .non => true
  | _ => false
theorem at_non {K : PySem.W.Frag} {G : Hp} {v : V} {d : D} (h : At K G v d) : decide (v = .non) = isNon d := by
  cases h <;> first | rfl | exact decide_eq_false (fun z => by cases z)
def dIsN (da : DE) : DE := fun δ μ x k => da δ μ x fun d μ1 => k (.bl (isNon d)) μ1
def dNotN (da : DE) : DE := fun δ μ x k => da δ μ x fun d μ1 => k (.bl (!isNon d)) μ1
theorem q_isN {j : Nat} {p : Pos} (ha : QE X W a da) : QE X W (.Compare a [.Is] [.Constant .none j p] pos) (dIsN da) :=
  imE (pe_cmp (pc_isN ha) (by rfl)) fun σ H Q ⟨G, δ, μ, x, k, R, S, q, f, fx⟩ => ⟨G, δ, μ, x, _, R, S, q, fun G1 H1 v d μ1 S1 R1 A1 q1 => by
    show Q (.bl (decide (v = .non))) H1
    rw [at_non A1]; exact f G1 H1 _ _ μ1 S1 R1 (.bl _) q1, fx⟩
theorem q_notN {j : Nat} {p : Pos} (ha : QE X W a da) : QE X W (.Compare a [.IsNot] [.Constant .none j p] pos) (dNotN da) :=
  imE (pe_cmp (pc_notN ha) (by rfl)) fun σ H Q ⟨G, δ, μ, x, k, R, S, q, f, fx⟩ => ⟨G, δ, μ, x, _, R, S, q, fun G1 H1 v d μ1 S1 R1 A1 q1 => by
    show Q (.bl (!decide (v = .non))) H1
    rw [at_non A1]; exact f G1 H1 _ _ μ1 S1 R1 (.bl _) q1, fx⟩

/-! ### and, or, not; if -/
def dAnd (p q : DT) : DT := fun δ μ x k => p δ μ x fun b μ1 => if b = true then q δ μ1 x k else k false μ1
def dOr (p q : DT) : DT := fun δ μ x k => p δ μ x fun b μ1 => if b = true then k true μ1 else q δ μ1 x k
def dNot (p : DT) : DT := fun δ μ x k => p δ μ x fun b μ1 => k (!b) μ1
variable {dp dq : DT} {rest : List Expr}
theorem qw_and1 (h : QT X W a dp) : QW X W (.BoolOp .And [a] pos) dp := pw_and1 h
theorem qw_or1 (h : QT X W a dp) : QW X W (.BoolOp .Or [a] pos) dp := pw_or1 h
theorem qw_and (h : QT X W a dp) (h2 : QW X W (.BoolOp .And (b :: rest) pos) dq) : QW X W (.BoolOp .And (a :: b :: rest) pos) (dAnd dp dq) :=
  imW (pw_and h h2) fun σ H Q ⟨G, δ, μ, x, k, R, S, q, f, fx⟩ => ⟨G, δ, μ, x, _, R, S, q, fun G1 H1 c μ1 S1 R1 q1 => by
    cases c with
    | true => exact iteT ⟨G1, δ, μ1, x, k, R1, S.up S1, by simpa using q1, f.up S1, fx.up S1⟩
    | false => exact iteF (f G1 H1 false μ1 S1 R1 (by simpa using q1)), fx⟩
theorem qw_or (h : QT X W a dp) (h2 : QW X W (.BoolOp .Or (b :: rest) pos) dq) : QW X W (.BoolOp .Or (a :: b :: rest) pos) (dOr dp dq) :=
  imW (pw_or h h2) fun σ H Q ⟨G, δ, μ, x, k, R, S, q, f, fx⟩ => ⟨G, δ, μ, x, _, R, S, q, fun G1 H1 c μ1 S1 R1 q1 => by
    cases c with
    | true => exact iteT (f G1 H1 true μ1 S1 R1 (by simpa using q1))
    | false => exact iteF ⟨G1, δ, μ1, x, k, R1, S.up S1, by simpa using q1, f.up S1, fx.up S1⟩, fx⟩
theorem qt_not (h : QT X W a dp) : QT X W (.UnaryOp .Not a pos) (dNot dp) :=
  imT (pt_not h) fun σ H Q ⟨G, δ, μ, x, k, R, S, q, f, fx⟩ => ⟨G, δ, μ, x, _, R, S, q, fun G1 H1 c μ1 S1 R1 q1 => f G1 H1 (!c) μ1 S1 R1 q1, fx⟩
theorem qt_bool {e : Expr} {d : DT} (h : QW X W e d) : QT X W e d := PW.pt h
def dIfE (p : DT) (da db : DE) : DE := fun δ μ x k => p δ μ x fun b μ1 => if b = true then da δ μ1 x k else db δ μ1 x k
theorem q_ifE {c : Expr} (hc : QT X W c dp) (ha : QE X W a da) (hb : QE X W b db) : QE X W (.IfExp c a b pos) (dIfE dp da db) :=
  imE (pe_ifExp hc ha hb) fun σ H Q ⟨G, δ, μ, x, k, R, S, q, f, fx⟩ => ⟨G, δ, μ, x, _, R, S, q, fun G1 H1 c μ1 S1 R1 q1 => by
    cases c with
    | true => exact iteT ⟨G1, δ, μ1, x, k, R1, S.up S1, by simpa using q1, f.up S1, fx.up S1⟩
    | false => exact iteF ⟨G1, δ, μ1, x, k, R1, S.up S1, by simpa using q1, f.up S1, fx.up S1⟩, fx⟩
/-- .. as values -/
def dAndV (da db : DE) : DE := fun δ μ x k => da δ μ x fun d μ1 => ∃ b, d = .bl b ∧ if b = true then db δ μ1 x k else k (.bl false) μ1
def dOrV (da db : DE) : DE := fun δ μ x k => da δ μ x fun d μ1 => ∃ b, d = .bl b ∧ if b = true then k (.bl true) μ1 else db δ μ1 x k
def dNotV (da : DE) : DE := fun δ μ x k => da δ μ x fun d μ1 => ∃ b, d = .bl b ∧ k (.bl (!b)) μ1
theorem q_one {op : BoolOp} (h : QE X W a da) : QE X W (.BoolOp op [a] pos) da := pe_one h
theorem q_and (ha : QE X W a da) (hb : QE X W (.BoolOp .And (b :: rest) pos) db) : QE X W (.BoolOp .And (a :: b :: rest) pos) (dAndV da db) :=
  imE (pe_and ha hb) fun σ H Q ⟨G, δ, μ, x, k, R, S, q, f, fx⟩ => ⟨G, δ, μ, x, _, R, S, q, fun G1 H1 v d μ1 S1 R1 A1 ⟨c, e, q1⟩ => by
    subst e
    cases A1
    refine ⟨c, rfl, ?_⟩
    cases c with
    | true => exact iteT ⟨G1, δ, μ1, x, k, R1, S.up S1, by simpa using q1, f.up S1, fx.up S1⟩
    | false => exact iteF (f G1 H1 _ _ μ1 S1 R1 (.bl false) (by simpa using q1)), fx⟩
theorem q_or (ha : QE X W a da) (hb : QE X W (.BoolOp .Or (b :: rest) pos) db) : QE X W (.BoolOp .Or (a :: b :: rest) pos) (dOrV da db) :=
  imE (pe_or ha hb) fun σ H Q ⟨G, δ, μ, x, k, R, S, q, f, fx⟩ => ⟨G, δ, μ, x, _, R, S, q, fun G1 H1 v d μ1 S1 R1 A1 ⟨c, e, q1⟩ => by
    subst e
    cases A1
    refine ⟨c, rfl, ?_⟩
    cases c with
    | true => exact iteT (f G1 H1 _ _ μ1 S1 R1 (.bl true) (by simpa using q1))
    | false => exact iteF ⟨G1, δ, μ1, x, k, R1, S.up S1, by simpa using q1, f.up S1, fx.up S1⟩, fx⟩
theorem q_not (ha : QE X W a da) : QE X W (.UnaryOp .Not a pos) (dNotV da) :=
  imE (pe_not ha) fun σ H Q ⟨G, δ, μ, x, k, R, S, q, f, fx⟩ => ⟨G, δ, μ, x, _, R, S, q, fun G1 H1 v d μ1 S1 R1 A1 ⟨c, e, q1⟩ => by
    subst e
    cases A1
    exact ⟨c, rfl, f G1 H1 _ _ μ1 S1 R1 (.bl _) q1⟩, fx⟩

/-! ### an item, a slice -/
def gIx : G2
  | .tup xs, .int i => fun μ k => ∃ v, atI xs i = some v ∧ k v μ
  | .str z, .int i => fun μ k => z.length ≤ sizeLine ∧ ∃ c, atI z.cps.toList i = some c ∧ k (.str ⟨#[c]⟩) μ
  | d, .int i => fun μ k => ∃ xs v, seqOf μ d = some xs ∧ atI xs i = some v ∧ k v μ
  | _, _ => fun _ _ => False
theorem atI_at {K : PySem.W.Frag} {G : Hp} {vs : List V} {ds : List D} {i : Int} {d : D} (h : AtAll K G vs ds) (e : atI ds i = some d) : ∃ v, atI vs i = some v ∧ At K G v d := by
  unfold atI at e ⊢
  rw [h.length]
  cases q : ixN ds.length i with
  | none => rw [q] at e; cases e
  | some j =>
    rw [q] at e
    simp only [Option.bind_some] at e ⊢
    exact h.get e
theorem q_ix (ha : QE X W a da) (hb : QE X W b db) (hs : PlainIx b := by exact fun _ _ => rfl) : QE X W (.Subscript a b pos) (dOp gIx da db) := by
  refine imE (pe_ix ix_seq ha hb hs) (im2 ?_)
  intro G H μ x y d e k Q R ax ay h f
  have seqs : ∀ i, At X.K G y (.int i) → (∃ xs v, seqOf μ d = some xs ∧ atI xs i = some v ∧ k v μ) → rIx X.K x y H Q := fun i ay' ⟨xs, v, e1, e2, q⟩ => by
    cases ay'
    obtain ⟨p, vs, rfl, hl, hA⟩ := seq_at R ax e1
    obtain ⟨w, e3, aw⟩ := atI_at hA e2
    exact .inl ⟨p, vs, i, w, rfl, rfl, hl, e3, f G H _ _ μ (Same.refl _) R aw q⟩
  cases e with
  | int i =>
    cases d with
    | tup xs =>
      cases ax with
      | tup h1 r1 =>
        cases ay
        obtain ⟨v, e2, q⟩ := h
        obtain ⟨w, e3, aw⟩ := atI_at r1 e2
        exact .inr (.inl ⟨_, _, i, w, rfl, rfl, sameT R.sub h1, e3, f G H _ _ μ (Same.refl _) R aw q⟩)
    | str z =>
      cases ax; cases ay
      obtain ⟨hz, c, e2, q⟩ := h
      exact .inr (.inr ⟨z, i, c, rfl, rfl, hz, e2, f G H _ _ μ (Same.refl _) R (.str _) q⟩)
    | _ => exact seqs i ay h
  | _ => cases d <;> exact (show False from h).elim
abbrev DO := Ds → Mu → DX → (Option Int → Mu → Prop) → Prop
def FinO (K : PySem.W.Frag) (G : Hp) (k : Option Int → Mu → Prop) (Q : Option Int → Hp → Prop) : Prop := ∀ G' H' o μ', Same G G' → Rep K G' H' μ' → k o μ' → Q o H'
def liftO (K : PySem.W.Frag) (mg : Str → Option Value) (W : WX) (d : DO) : TO := fun σ H Q => ∃ (G : Hp) (δ : Ds) (μ : Mu) (x : DX) (k : Option Int → Mu → Prop), Rep K G H μ ∧ SlotsAt K G σ δ ∧ d δ μ x k ∧ FinO K G k Q ∧ FinX K mg W G x
abbrev QO (X : Cx) (W : WX) (e : Option Expr) (d : DO) : Prop := PO X e (liftO X.K X.mg W d)
theorem imO {e : Option Expr} {t t' : TO} (h : PO X e t) (i : ∀ σ H Q, t' σ H Q → t σ H Q) : PO X e t' := ⟨fun pins s σ H Q I q => h.run pins s σ H Q I (i σ H Q q)⟩
def dNoPart : DO := fun _ μ _ k => k none μ
def dPart (da : DE) : DO := fun δ μ x k => da δ μ x fun d μ1 => ∃ i, d = .int i ∧ k (some i) μ1
theorem qo_none : QO X W none dNoPart := imO po_none fun σ H Q ⟨G, δ, μ, x, k, R, S, q, f, fx⟩ => f G H none μ (Same.refl _) R q
theorem qo_some (h : QE X W e da) : QO X W (some e) (dPart da) := imO (po_some h) fun σ H Q ⟨G, δ, μ, x, k, R, S, q, f, fx⟩ =>
  ⟨G, δ, μ, x, _, R, S, q, fun G1 H1 v d μ1 S1 R1 A1 ⟨i, e, q1⟩ => by subst e; cases A1; exact ⟨i, rfl, f G1 H1 (some i) μ1 S1 R1 q1⟩, fx⟩
def cutD (xs : List D) (lo hi : Option Int) : List D := (xs.drop (HT.sIx xs.length 0 lo)).take (HT.sIx xs.length xs.length hi - HT.sIx xs.length 0 lo)
theorem cut_at {K : PySem.W.Frag} {G : Hp} {vs : List V} {ds : List D} (h : AtAll K G vs ds) (lo hi : Option Int) : AtAll K G (cutV vs lo hi) (cutD ds lo hi) := by
  unfold cutV cutD
  rw [h.length]
  exact (h.drop _).take _
def gCut (d : D) (lo hi : Option Int) (μ : Mu) (k : DK) : Prop :=
  match d with
  | .str z => z.length ≤ sizeLine ∧ k (.str (cutS z lo hi)) μ
  | d => ∃ xs, seqOf μ d = some xs ∧ k (.lst (cutD xs lo hi)) μ
def dCut (da : DE) (l h : DO) : DE := fun δ μ x k => da δ μ x fun d μ1 => l δ μ1 x fun lo μ2 => h δ μ2 x fun hi μ3 => gCut d lo hi μ3 k
theorem q_cut {lo hi : Option Expr} {dl dh : DO} {p2 : Pos} (ha : QE X W a da) (hl : QO X W lo dl) (hh : QO X W hi dh) : QE X W (.Subscript a (.Slice lo hi none p2) pos) (dCut da dl dh) :=
  imE (pe_slice (sl_list.or sl_str) ha hl hh) fun σ H Q ⟨G, δ, μ, x, k, R, S, q, f, fx⟩ =>
    ⟨G, δ, μ, x, _, R, S, q, fun G1 H1 v d μ1 S1 R1 A1 q1 =>
      ⟨G1, δ, μ1, x, _, R1, S.up S1, q1, fun G2 H2 lo μ2 S2 R2 q2 =>
        ⟨G2, δ, μ2, x, _, R2, S.up (S1.trans S2), q2, fun G3 H3 hi μ3 S3 R3 q3 => by
          have S13 := S2.trans S3
          have A3 := A1.up S13
          have seqs : (∃ xs, seqOf μ3 d = some xs ∧ k (.lst (cutD xs lo hi)) μ3) → rSlL X.K v lo hi H3 Q ∨ rSlS v lo hi H3 Q := fun ⟨xs, e1, q⟩ => by
            obtain ⟨p, vs, rfl, hl, hA⟩ := seq_at R3 A3 e1
            refine .inl ⟨p, vs, rfl, hl, fun p3 hp => ?_⟩
            have gp := R3.sub.free hp
            exact f (upd G3 p3 (.lst (cutV vs lo hi))) _ (.ref p3) _ μ3 ((S1.trans S13).trans (same_upd gp)) (R3.new hp) (.lst (.of upd_same) ((cut_at hA lo hi).up (same_upd gp))) q
          cases d with
          | str z =>
            cases A1
            obtain ⟨hz, q⟩ := q3
            exact .inr ⟨z, rfl, hz, f G3 H3 _ _ μ3 (S1.trans S13) R3 (.str _) q⟩
          | _ => exact seqs q3, fx.up (S1.trans S2)⟩, fx.up S1⟩, fx⟩
end
end Once

namespace Once
open PySem PySem.Spec PyProof.Rows L2
section
variable {X : Cx} {W : WX} {a b e o : Expr} {es : List Expr} {da db : DE} {t : DA} {pos : Pos}

/-! ### built-ins -/
abbrev GC := List D → Mu → DK → Prop
def cW (X : Cx) (f : Value) : List V → Hp → VK → Prop := fun xs H Q => ∀ (pins : List (Addr × Obj)) (s : Shared) (σ : St) (us : List Value), Inv X pins σ H s → Vals xs us → wpAny (model X.prog X.w) X.A (call f us) (EP X pins σ Q) X.xe s
theorem callW {f : Value} : CallR X f (cW X f) := fun pins s σ H xs us Q I r h => h pins s σ us I r
def CallQ (X : Cx) (f : Value) (g : GC) : Prop := ∀ (G H : Hp) (μ : Mu) (vs : List V) (ds : List D) (k : DK) (Q : VK), Rep X.K G H μ → AtAll X.K G vs ds → g ds μ k → FinV X.K G k Q → cW X f vs H Q
theorem byC {f : Value} {r : List V → Hp → VK → Prop} (h : CallR X f r) {vs : List V} {H : Hp} {Q : VK} (q : r vs H Q) : cW X f vs H Q := fun pins s σ us I rx => h pins s σ H vs us Q I rx q
def dB1 (g : GC) (t : DA) : DE := fun δ μ x k => t δ μ x fun ds μ1 => g ds μ1 k
theorem imC {f : Value} {g : GC} {K : PySem.W.Frag} {mg : Str → Option Value} {n : Nat} {r : List V → Hp → VK → Prop} (h : ∀ (G H : Hp) (μ : Mu) (vs : List V) (ds : List D) (k : DK) (Q : VK), Rep K G H μ → AtAll K G vs ds → g ds μ k → FinV K G k Q → r vs H Q) :
    ∀ σ H Q, liftE K mg W (dB1 g t) σ H Q → tCB r (liftA K mg W n t) σ H Q := fun σ H Q ⟨G, δ, μ, x, k, R, S, q, f, fx⟩ =>
  ⟨G, δ, μ, x, _, R, S, q, fun G1 H1 vs ds μ1 S1 R1 A1 _ q1 => h G1 H1 μ1 vs ds k Q R1 A1 q1 (f.up S1), fx⟩
theorem q_callB {x : Str} {p : Pos} {id : String} {g : GC} (hc : CallQ X (.builtin id) g) (hg : Gl X x) (hm : X.mg x = none) (hv : bootBuiltins x = some (.builtin id)) (ha : QA X W (e :: es) t) (hn : x ≠ "__name__" := by decide) (hdb : (x == ("__debug__" : Str)) = false := by decide)
    (he : starEach (e :: es) X.env = (false, eval e X.env) :: starEach es X.env := by rfl) (hpl : (backTo pos (starEach es X.env)).any (·.1) = false := by rfl) : QE X W (.Call (.Name x p) (e :: es) [] pos) (dB1 g t) :=
  imE (pe_callB callW hg hm hv ha hn hdb he hpl) (imC (f := .builtin id) hc)
theorem q_callTy {x : Str} {p : Pos} {T : String} {g : GC} (hc : CallQ X (.type T) g) (hg : Gl X x) (hm : X.mg x = none) (hv : bootBuiltins x = some (.type T)) (ha : QA X W (e :: es) t) (hn : x ≠ "__name__" := by decide) (hdb : (x == ("__debug__" : Str)) = false := by decide)
    (he : starEach (e :: es) X.env = (false, eval e X.env) :: starEach es X.env := by rfl) (hpl : (backTo pos (starEach es X.env)).any (·.1) = false := by rfl) : QE X W (.Call (.Name x p) (e :: es) [] pos) (dB1 g t) :=
  imE (pe_callTy callW hg hm hv ha hn hdb he hpl) (imC (f := .type T) hc)

/-- len -/
def gLen : GC
  | [.str z] => fun μ k => z.length ≤ sizeLine ∧ k (.int z.length) μ
  | [.tup xs] => fun μ k => k (.int xs.length) μ
  | [d] => fun μ k => ∃ xs, seqOf μ d = some xs ∧ k (.int xs.length) μ
  | _ => fun _ _ => False
theorem len_seq {G H : Hp} {μ : Mu} {v : V} {d : D} {k : DK} {Q : VK} (R : Rep X.K G H μ) (av : At X.K G v d) (f : FinV X.K G k Q) (h : ∃ xs, seqOf μ d = some xs ∧ k (.int xs.length) μ) : cW X (.builtin "len") [v] H Q := by
  obtain ⟨xs, e, q⟩ := h
  obtain ⟨p, vs, rfl, hl, ha⟩ := seq_at R av e
  exact byC call_len ⟨_, _, rfl, .inl ⟨vs, hl, rfl⟩, f G H _ _ μ (Same.refl _) R (by rw [ha.length]; exact .int _) q⟩
theorem cq_len : CallQ X (.builtin "len") gLen := by
  intro G H μ vs ds k Q R A h f
  cases A with
  | nil => exact (show False from h).elim
  | cons av r =>
    cases r with
    | cons _ _ => rename_i d _ _ _ _ _ _; cases d <;> exact (show False from h).elim
    | nil =>
      rename_i v d
      cases d with
      | str z => cases av; exact byC call_len ⟨_, _, rfl, ⟨h.1, rfl⟩, f G H _ _ μ (Same.refl _) R (.int _) h.2⟩
      | tup xs =>
        cases av with
        | tup h1 r1 => exact byC call_len ⟨_, _, rfl, .inr ⟨_, sameT R.sub h1, rfl⟩, f G H _ _ μ (Same.refl _) R (by rw [r1.length]; exact .int _) h⟩
      | _ => exact len_seq R av f h
/-- abs, int of an int -/
def gAbs : GC
  | [.int i] => fun μ k => k (.int (if i < 0 then -i else i)) μ
  | _ => fun _ _ => False
theorem cq_abs : CallQ X (.builtin "abs") gAbs := by
  intro G H μ vs ds k Q R A h f
  match ds, A, h with
  | [.int i], .cons (.int _) .nil, h => exact byC call_abs ⟨i, rfl, f G H _ _ μ (Same.refl _) R (.int _) h⟩
def gIntOf : GC
  | [.int i] => fun μ k => k (.int i) μ
  | [.bl b] => fun μ k => k (.int (if b then 1 else 0)) μ
  | _ => fun _ _ => False
theorem cq_int : CallQ X (.type "int") gIntOf := by
  intro G H μ vs ds k Q R A h f
  match ds, A, h with
  | [.int i], .cons (.int _) .nil, h => exact byC call_int1 (.inl ⟨i, rfl, f G H _ _ μ (Same.refl _) R (.int _) h⟩)
  | [.bl i], .cons (.bl _) .nil, h => exact byC call_int1 (.inr ⟨i, rfl, f G H _ _ μ (Same.refl _) R (.int _) h⟩)
/-- list(xs): a list that stays, or one that may change -/
def itemsOf (μ : Mu) : D → Option (List D)
  | .tup xs => some xs
  | d => seqOf μ d
theorem items_at {K : PySem.W.Frag} {G H : Hp} {μ : Mu} {v : V} {d : D} {xs : List D} (R : Rep K G H μ) (h : At K G v d) (e : itemsOf μ d = some xs) : ∃ p vs, v = .ref p ∧ (SqL K H p vs ∨ SqT K H p vs) ∧ AtAll K G vs xs := by
  have seqs : seqOf μ d = some xs → ∃ p vs, v = .ref p ∧ (SqL K H p vs ∨ SqT K H p vs) ∧ AtAll K G vs xs := fun e => by
    obtain ⟨p, vs, e1, hl, ha⟩ := seq_at R h e
    exact ⟨p, vs, e1, .inl hl, ha⟩
  cases d with
  | tup ys =>
    cases h with
    | tup h1 r1 => cases e; exact ⟨_, _, rfl, .inr (sameT R.sub h1), r1⟩
  | _ => exact seqs e
def gList : GC
  | [d] => fun μ k => ∃ xs, itemsOf μ d = some xs ∧ k (.lst xs) μ
  | _ => fun _ _ => False
def gListM : GC
  | [d] => fun μ k => ∃ xs, itemsOf μ d = some xs ∧ ∀ a, μ a = none → k (.mref a) (put μ a (.lst xs))
  | _ => fun _ _ => False
theorem cq_list : CallQ X (.type "list") gList := by
  intro G H μ vs ds k Q R A h f
  match ds, A, h with
  | [d], .cons av .nil, ⟨xs, e, q⟩ =>
    obtain ⟨p, ws, rfl, hs, ha⟩ := items_at R av e
    refine byC call_list_of ⟨p, ws, rfl, hs, fun l hl => ?_⟩
    have gp := R.sub.free hl
    exact f (upd G l (.lst ws)) _ (.ref l) _ μ (same_upd gp) (R.new hl) (.lst (.of upd_same) (ha.up (same_upd gp))) q
theorem cq_listM : CallQ X (.type "list") gListM := by
  intro G H μ vs ds k Q R A h f
  match ds, A, h with
  | [d], .cons av .nil, ⟨xs, e, q⟩ =>
    obtain ⟨p, ws, rfl, hs, ha⟩ := items_at R av e
    refine byC call_list_of ⟨p, ws, rfl, hs, fun l hl => ?_⟩
    exact f G _ (.ref l) _ _ (Same.refl _) (R.lay (R.sub.free hl) ha) (.mref l) (q l (R.fresh hl))
/-- repr -/
def reprD (d : D) : Str := (toPy d).shown
def gRepr : GC
  | [d] => fun μ k => okD d = true ∧ (toPy d).showable = true ∧ deepD d ≤ 800 ∧ (reprD d).length ≤ sizeLine ∧ k (.str (reprD d)) μ
  | _ => fun _ _ => False
theorem noDict_ints : ∀ ns : List Int, PyData.hasDictAll (ns.map PyData.int) = false
  | [] => by simp [PyData.hasDictAll]
  | n :: r => by rw [List.map_cons, PyData.hasDictAll, noDict_ints r]; simp [PyData.hasDict]
mutual
theorem noDict : ∀ d : D, (toPy d).hasDict = false
  | .non => by simp [toPy, PyData.hasDict]
  | .bl b => by simp [toPy, PyData.hasDict]
  | .int i => by simp [toPy, PyData.hasDict]
  | .str x => by simp [toPy, PyData.hasDict]
  | .lst xs => by have := noDicts xs; simpa only [toPy, PyData.hasDict] using this
  | .tup xs => by have := noDicts xs; simpa only [toPy, PyData.hasDict] using this
  | .scr ns => by simp only [toPy, PyData.hasDict, noDict_ints]
  | .mref _ => by simp [toPy, PyData.hasDict]
  | .exc _ _ _ _ _ => by simp [toPy, PyData.hasDict]
theorem noDicts : ∀ ds : List D, PyData.hasDictAll (toPys ds) = false
  | [] => by simp [toPys, PyData.hasDictAll]
  | x :: xs => by have h1 := noDict x; have h2 := noDicts xs; simp only [toPys, PyData.hasDictAll, h1, h2, Bool.or_self]
end
theorem repr_none {prog : Program} {w : World} {A : Around} {E : Value → Shared → Prop} {s : Shared} {Q : Value → Shared → Prop} (h : Q (.str "None" s.toks) { s with toks := s.toks + 1 }) : wpAny (model prog w) A (call (.builtin "repr") [.none]) Q E s :=
  call_repr_gives (typeIs_none s) F.slot_NoneType_repr F.entry_NoneType_repr (F.args_NoneType_repr_1 _) gives_none_repr h
theorem cq_repr (hu : Un0 X.A) : CallQ X (.builtin "repr") gRepr := by
  intro G H μ vs ds k Q R A h f
  match ds, vs, A, h with
  | [d], [v], .cons av .nil, ⟨o, sh, dp, hz, q⟩ =>
    intro pins s σ us I r
    obtain ⟨u, rfl, ru⟩ := vals1 r
    obtain ⟨as, rd⟩ := Dp.reads I _ v u (dp_of R.sub av o) ru
    have fin : ∀ (h' : Heap) (tk : Nat) (tok : Tok), (∀ b o, s.heap.get? b = some o → h'.get? b = some o) → EP X pins σ Q (.str (reprD d) tok) { s with heap := h', toks := tk } := fun h' tk tok hk =>
      ⟨.str (reprD d), H, I.kept (t' := tk) hk, ⟨_, rfl⟩, f G H _ _ μ (Same.refl _) R (.str _) q⟩
    have refs : ∀ a, u = .ref a → wpAny (model X.prog X.w) X.A (call (.builtin "repr") [u]) (EP X pins σ Q) X.xe s := fun a e => by
      subst e
      exact repr_of_reads' rd sh (fun z => by rw [noDict d] at z; cases z) hu.2 (by have h1 := deep_py d; have h2 := hu.1; omega) (fun _ _ e => e) (fun h' u tk hk => fin h' tk u hk) hz
    have e0 : ∀ tk, ({ s with heap := s.heap, toks := tk } : Shared) = { s with toks := tk } := fun _ => rfl
    cases av with
    | non => obtain rfl : u = Value.none := ru; exact repr_none (fin s.heap (s.toks + 1) s.toks fun _ _ e => e)
    | bl b => obtain rfl : u = Value.bool b := ru; exact PySem.P.repr_of_bool (fin s.heap (s.toks + 1) s.toks fun _ _ e => e)
    | int i =>
      obtain ⟨t, rfl⟩ := ru
      have hi : i.natAbs.log2 < 1920 := by simpa [toPy, PyData.showable] using sh
      exact PySem.P.repr_of_int hi (fin s.heap (s.toks + 1) s.toks fun _ _ e => e)
    | str x => obtain ⟨t, rfl⟩ := ru; exact PySem.P.repr_of_str (fin s.heap (s.toks + 1) s.toks fun _ _ e => e) hz
    | lst _ _ => exact refs _ ru
    | tup _ _ => exact refs _ ru
    | scr _ => exact refs _ ru
    | mref a => exact refs _ ru
    | exc0 a c => exact refs _ ru
    | exc _ _ _ => exact refs _ ru

/-! ### isinstance -/
def tyD : D → String
  | .non => "NoneType" | .bl _ => "bool" | .int _ => "int" | .str _ => "str"
  | .lst _ => "list" | .scr _ => "list" | .mref _ => "list" | .tup _ => "tuple" | .exc _ _ _ _ _ => "?"
theorem tyx_sq {K : PySem.W.Frag} {H : Hp} {a : Addr} {vs : List V} (h : SqL K H a vs) : TyX K H (.ref a) (.type "list") := by
  rcases h with (h | ⟨o, h⟩) | ⟨o, its, n, hk, hc, _⟩
  · exact .base (.lst h)
  · exact .base (.frz h)
  · exact .kList hk hc
theorem tyx_of {K : PySem.W.Frag} {G H : Hp} {μ : Mu} {v : V} {d : D} (R : Rep K G H μ) (h : At K G v d) (ne : ∀ a c dd ns vs, d ≠ .exc a c dd ns vs) (nm : ∀ a, d = .mref a → ∃ xs, μ a = some (.lst xs)) : TyX K H v (.type (tyD d)) := by
  cases h with
  | non => exact .base .non
  | bl b => exact .base (.bl b)
  | int i => exact .base (.int i)
  | str x => exact .base (.str x)
  | lst h r => exact tyx_sq (.inl (rdUp R.sub h))
  | scr h => exact tyx_sq (R.sub.seq h)
  | mref a =>
    obtain ⟨xs, e⟩ := nm a rfl
    obtain ⟨_, vs, e1, _⟩ := R.mu a _ e
    exact .base (.lst e1)
  | tup h r =>
    rcases sameT R.sub h with (h | ⟨o, h⟩) | ⟨o, its, n, hk, hc, _⟩
    · exact .base (.tup h)
    · exact .fTuple h
    · exact .kTuple hk hc
  | exc0 a c => exact absurd rfl (ne _ _ _ _ _)
  | exc _ _ _ => exact absurd rfl (ne _ _ _ _ _)
/-- what isinstance may be asked of -/
def askD (μ : Mu) : D → Prop
  | .exc _ _ _ _ _ => False
  | .mref a => ∃ xs, μ a = some (.lst xs)
  | _ => True
def dIsi (p : D → Bool) (da : DE) : DE := fun δ μ x k => da δ μ x fun d μ1 => askD μ1 d ∧ k (.bl (p d)) μ1
def isTup : D → Bool | .tup _ => true | _ => false
def isStr : D → Bool | .str _ => true | _ => false
def isInt : D → Bool | .int _ => true | .bl _ => true | _ => false
def isBool : D → Bool | .bl _ => true | _ => false
def isList : D → Bool | .lst _ => true | .scr _ => true | .mref _ => true | _ => false
def AnsT (T : String) (p : D → Bool) : Prop := ∀ d, (∀ a c dd ns vs, d ≠ .exc a c dd ns vs) → kitB (tyD d) T = some (p d)
theorem ans_tup : AnsT "tuple" isTup := fun d h => by cases d <;> first | exact absurd rfl (h _ _ _ _ _) | (clear h; dsimp only [tyD, isTup]; decide +kernel)
theorem ans_str : AnsT "str" isStr := fun d h => by cases d <;> first | exact absurd rfl (h _ _ _ _ _) | (clear h; dsimp only [tyD, isStr]; decide +kernel)
theorem ans_int : AnsT "int" isInt := fun d h => by cases d <;> first | exact absurd rfl (h _ _ _ _ _) | (clear h; dsimp only [tyD, isInt]; decide +kernel)
theorem ans_bool : AnsT "bool" isBool := fun d h => by cases d <;> first | exact absurd rfl (h _ _ _ _ _) | (clear h; dsimp only [tyD, isBool]; decide +kernel)
theorem ans_list : AnsT "list" isList := fun d h => by cases d <;> first | exact absurd rfl (h _ _ _ _ _) | (clear h; dsimp only [tyD, isList]; decide +kernel)
theorem q_isi {T : String} {x : Str} {p1 p2 : Pos} {p : D → Bool} (hT : AnsT T p) (hg : Gl X "isinstance") (hm : X.mg "isinstance" = none) (hgT : Gl X x) (hmT : X.mg x = none) (hv : bootBuiltins x = some (.type T)) (ha : QE X W a da)
    (hn : x ≠ "__name__" := by decide) (hdb : (x == ("__debug__" : Str)) = false := by decide)
    (he : starEach [a, .Name x p2] X.env = (false, eval a X.env) :: starEach [.Name x p2] X.env := by rfl) (he2 : starEach [.Name x p2] X.env = (false, eval (.Name x p2) X.env) :: starEach [] X.env := by rfl) (hpl : (backTo pos (starEach [.Name x p2] X.env)).any (·.1) = false := by rfl) :
    QE X W (.Call (.Name "isinstance" p1) [a, .Name x p2] [] pos) (dIsi p da) := by
  refine imE (pe_callB call_isi hg hm (by decide +kernel) (pa_cons ha (pa_cons (pe_bltn (v := .ty T) hgT hmT hv rfl hn hdb) pa_nil he2) he) (by decide) (by decide) he hpl) fun σ H Q ⟨G, δ, μ, x, k, R, S, q, f, fx⟩ => ⟨G, δ, μ, x, _, R, S, q, fun G1 H1 v d μ1 S1 R1 A1 ⟨ask, q1⟩ => ?_, fx⟩
  have ne : ∀ a c dd ns vs, d ≠ .exc a c dd ns vs := fun _ _ _ _ _ e => by subst e; exact ask
  exact ⟨v, .ty T, _, _, p d, rfl, .ty T, tyx_of R1 A1 ne (fun a e => by subst e; exact ask), kit_ty (hT d ne), f G1 H1 _ _ μ1 S1 R1 (.bl _) q1⟩
end
end Once

namespace Once
open PySem PySem.Spec PyProof.Rows L2
section
variable {X : Cx} {W : WX} {a b e o tg : Expr} {es : List Expr} {da db : DE} {t : DA} {pos : Pos} {st : Stmt} {rest : List Stmt} {d1 d2 : DS}

/-! ### blocks -/
def dNext : DS := fun E δ μ => E.nx δ μ
def dSeq (p q : DS) : DS := fun E δ μ => p { E with nx := q E } δ μ
def dRet (da : DE) : DS := fun E δ μ => da δ μ E.ex E.rt
def dRetN : DS := fun E _ μ => E.rt .non μ
def dDrop (da : DE) : DS := fun E δ μ => da δ μ E.ex fun _ μ1 => E.nx δ μ1
def dIf (p : DT) (s1 s2 : DS) : DS := fun E δ μ => p δ μ E.ex fun b μ1 => if b = true then s1 E δ μ1 else s2 E δ μ1
def dBrk : DS := fun E δ μ => E.bk δ μ
def dCnt : DS := fun E δ μ => E.ct δ μ
theorem qss_nil : QSs X W [] dNext := imSs pss_nil fun T σ H ⟨G, δ, μ, E, R, S, q, f⟩ => f.nx G H σ δ μ (Same.refl _) R S q
theorem qss_cons (h1 : QS X W st d1) (h2 : QSs X W rest d2) : QSs X W (st :: rest) (dSeq d1 d2) := imSs (pss_cons h1 h2) fun T σ H ⟨G, δ, μ, E, R, S, q, f⟩ =>
  ⟨G, δ, μ, { E with nx := d2 E }, R, S, q, ⟨fun G1 H1 σ1 δ1 μ1 S1 R1 Z1 q1 => ⟨G1, δ1, μ1, E, R1, Z1, q1, f.up S1⟩, f.rt, f.bk, f.ct, f.ex⟩⟩
theorem qss_one (h1 : QS X W st d1) : QSs X W [st] d1 := pss_one h1
theorem qs_ret (h : QE X W e da) : QS X W (.Return (some e) pos) (dRet da) := imS (ps_ret h) fun T σ H ⟨G, δ, μ, E, R, S, q, f⟩ => ⟨G, δ, μ, E.ex, E.rt, R, S, q, f.rt, f.ex⟩
theorem qs_retN : QS X W (.Return none pos) dRetN := imS ps_retN fun T σ H ⟨G, δ, μ, E, R, S, q, f⟩ => f.rt G H .non .non μ (Same.refl _) R .non q
theorem qs_expr (h : QE X W e da) (hs : swapsWith e none pos.line X.env = pure false := by rfl) : QS X W (.Expr e pos) (dDrop da) := imS (ps_expr h hs) fun T σ H ⟨G, δ, μ, E, R, S, q, f⟩ =>
  ⟨G, δ, μ, E.ex, _, R, S, q, fun G1 H1 v r μ1 S1 R1 A1 q1 => f.nx G1 H1 σ δ μ1 S1 R1 (S.up S1) q1, f.ex⟩
theorem qs_doc {x j p} : QS X W (.Expr (.Constant (.str x) j p) pos) dNext := imS ps_doc fun T σ H ⟨G, δ, μ, E, R, S, q, f⟩ => f.nx G H σ δ μ (Same.refl _) R S q
theorem qs_if {c : Expr} {sa sb : List Stmt} {dc : DT} (hc : QT X W c dc) (ha : QSs X W sa d1) (hb : QSs X W sb d2) : QS X W (.If c sa sb pos) (dIf dc d1 d2) := imS (ps_if hc ha hb) fun T σ H ⟨G, δ, μ, E, R, S, q, f⟩ =>
  ⟨G, δ, μ, E.ex, _, R, S, q, fun G1 H1 b μ1 S1 R1 q1 => by
    cases b with
    | true => exact iteT ⟨G1, δ, μ1, E, R1, S.up S1, by simpa using q1, f.up S1⟩
    | false => exact iteF ⟨G1, δ, μ1, E, R1, S.up S1, by simpa using q1, f.up S1⟩, f.ex⟩
theorem qs_break : QS X W (.Break pos) dBrk := imS ps_break fun T σ H ⟨G, δ, μ, E, R, S, q, f⟩ => f.bk G H σ δ μ (Same.refl _) R S q
theorem qs_cont : QS X W (.Continue pos) dCnt := imS ps_continue fun T σ H ⟨G, δ, μ, E, R, S, q, f⟩ => f.ct G H σ δ μ (Same.refl _) R S q
theorem qs_pass : QS X W (.Pass pos) dNext := imS ps_pass fun T σ H ⟨G, δ, μ, E, R, S, q, f⟩ => f.nx G H σ δ μ (Same.refl _) R S q

/-! ### targets -/
abbrev DG := D → Ds → Mu → (Ds → Mu → Prop) → Prop
abbrev DGs := List D → Ds → Mu → (Ds → Mu → Prop) → Prop
def liftG (K : PySem.W.Frag) (g : DG) : TG := fun v σ H Q => ∃ (G : Hp) (δ : Ds) (μ : Mu) (d : D) (k : Ds → Mu → Prop), Rep K G H μ ∧ SlotsAt K G σ δ ∧ At K G v d ∧ g d δ μ k ∧ FinN K G k Q
def liftGs (K : PySem.W.Frag) (g : DGs) : TGs := fun vs σ H Q => ∃ (G : Hp) (δ : Ds) (μ : Mu) (ds : List D) (k : Ds → Mu → Prop), Rep K G H μ ∧ SlotsAt K G σ δ ∧ AtAll K G vs ds ∧ g ds δ μ k ∧ FinN K G k Q
abbrev QG (X : Cx) (e : Expr) (g : DG) : Prop := PG X e (liftG X.K g)
abbrev QGs (X : Cx) (es : List Expr) (g : DGs) : Prop := PGs X es (liftGs X.K g)
theorem imG {e : Expr} {t t' : TG} (h : PG X e t) (i : ∀ v σ H Q, t' v σ H Q → t v σ H Q) : PG X e t' := ⟨fun pins s σ H v u Q I r q => h.run pins s σ H v u Q I r (i v σ H Q q)⟩
theorem imGs {es : List Expr} {t t' : TGs} (h : PGs X es t) (i : ∀ v σ H Q, t' v σ H Q → t v σ H Q) : PGs X es t' := ⟨fun pins s σ H v u Q I r q => h.run pins s σ H v u Q I r (i v σ H Q q)⟩
def gdName (i : Nat) : DG := fun d δ μ k => k (δ.set i (some d)) μ
def gdNil : DGs := fun ds δ μ k => ds = [] ∧ k δ μ
def gdCons (g : DG) (r : DGs) : DGs := fun ds δ μ k => ∃ d dr, ds = d :: dr ∧ g d δ μ fun δ1 μ1 => r dr δ1 μ1 k
def gdTup (n : Nat) (g : DGs) : DG := fun d δ μ k => ∃ xs, d = .tup xs ∧ xs.length = n ∧ g xs δ μ k
theorem qg_name {i : Nat} {x : Str} (hN : X.N.Nodup) (hi : X.N[i]? = some x) (hx : Loc X.env.scope x) (hf : X.fn x = true ∨ X.env.scope.names.lookup x = some .local := by first | exact .inl rfl | exact .inr rfl | assumption) : QG X (.Name x pos) (gdName i) :=
  imG (pg_name hN hi hx hf) fun v σ H Q ⟨G, δ, μ, d, k, R, S, A, q, f⟩ => f G H _ _ μ (Same.refl _) R (S.set A) q
theorem qgs_nil : QGs X [] gdNil := imGs pgs_nil fun vs σ H Q ⟨G, δ, μ, ds, k, R, S, A, ⟨e, q⟩, f⟩ => by
  subst e
  cases A
  exact ⟨rfl, f G H σ δ μ (Same.refl _) R S q⟩
theorem qgs_cons {g : DG} {r : DGs} (h1 : QG X e g) (h2 : QGs X es r) (hs : (assignEach (e :: es) X.env).map (·.2) = assign e X.env :: (assignEach es X.env).map (·.2) := by rfl) : QGs X (e :: es) (gdCons g r) :=
  imGs (pgs_cons h1 h2 hs) fun vs σ H Q ⟨G, δ, μ, ds, k, R, S, A, ⟨d, dr, e, q⟩, f⟩ => by
    subst e
    cases A with
    | cons A1 A2 => exact ⟨_, _, rfl, G, δ, μ, d, _, R, S, A1, q, fun G1 H1 σ1 δ1 μ1 S1 R1 Z1 q1 => ⟨G1, δ1, μ1, dr, k, R1, Z1, A2.up S1, q1, f.up S1⟩⟩
theorem qg_tup {j n : Nat} {g : DGs} (hc : X.calm = true) (h : QGs X es g) (hn : (assignEach es X.env).length = n := by rfl) (hst : (assignEach es X.env).findIdx? (·.1) = none := by rfl) : QG X (.Tuple es j pos) (gdTup n g) :=
  imG (pg_tup hc h hn hst) fun v σ H Q ⟨G, δ, μ, d, k, R, S, A, ⟨xs, e, hl, q⟩, f⟩ => by
    subst e
    cases A with
    | tup h1 r1 => exact ⟨_, _, rfl, sameT R.sub h1, by rw [r1.length]; exact hl, G, δ, μ, xs, k, R, S, r1, q, f⟩
/-- o[i] = .., a list that may change -/
def gdSub (dp di : DE) (x : DX) : DG := fun d δ μ k => dp δ μ x fun p μ1 => di δ μ1 x fun i μ2 => ∃ a xs j n, p = .mref a ∧ i = .int j ∧ μ2 a = some (.lst xs) ∧ ixN xs.length j = some n ∧ k δ (put μ2 a (.lst (xs.set n d)))
theorem qs_asg {g : DG} (he : QE X W e da) (hg : QG X tg g) (hs : swapsWithSole [tg] e pos.line X.env = pure false := by rfl) (hw : swappedStores [tg] e X.env = pure none := by rfl)
    (h1 : (assignEach [tg] X.env).map (·.2) = [assign tg X.env] := by rfl) : QS X W (.Assign [tg] e pos) (fun E δ μ => da δ μ E.ex fun d μ1 => g d δ μ1 E.nx) :=
  imS (ps_asg he hg hs hw h1) fun T σ H ⟨G, δ, μ, E, R, S, q, f⟩ => ⟨G, δ, μ, E.ex, _, R, S, q, fun G1 H1 v d μ1 S1 R1 A1 q1 => ⟨G1, δ, μ1, d, _, R1, S.up S1, A1, q1, f.nx.up S1⟩, f.ex⟩
def dSet (i : Nat) (da : DE) : DS := fun E δ μ => da δ μ E.ex fun d μ1 => E.nx (δ.set i (some d)) μ1
theorem qs_set {i : Nat} {x : Str} {p' : Pos} (hN : X.N.Nodup) (hi : X.N[i]? = some x) (hx : Loc X.env.scope x) (he : QE X W e da) (hs : swapsWith e (some (.Name x p')) pos.line X.env = pure false := by rfl) (hf : X.fn x = true ∨ X.env.scope.names.lookup x = some .local := by first | exact .inl rfl | exact .inr rfl | assumption) :
    QS X W (.Assign [.Name x p'] e pos) (dSet i da) :=
  imS (ps_set hN hi hx he hs hf) fun T σ H ⟨G, δ, μ, E, R, S, q, f⟩ => ⟨G, δ, μ, E.ex, _, R, S, q, fun G1 H1 v d μ1 S1 R1 A1 q1 => f.nx G1 H1 _ _ μ1 S1 R1 ((S.up S1).set A1) q1, f.ex⟩
/-- a tuple taken apart into names -/
def dUnp (n : Nat) (da : DE) (g : DGs) : DS := fun E δ μ => da δ μ E.ex fun d μ1 => gdTup n g d δ μ1 E.nx
theorem qs_unp {g : DGs} {j n : Nat} {p' : Pos} (hc : X.calm = true) (he : QE X W e da) (hg : QGs X es g) (hn : (assignEach es X.env).length = n := by rfl) (hst : (assignEach es X.env).findIdx? (·.1) = none := by rfl)
    (hs : swapsWithSole [.Tuple es j p'] e pos.line X.env = pure false := by rfl) (hw : swappedStores [.Tuple es j p'] e X.env = pure none := by rfl)
    (h1 : (assignEach [.Tuple es j p'] X.env).map (·.2) = [assign (.Tuple es j p') X.env] := by rfl) : QS X W (.Assign [.Tuple es j p'] e pos) (dUnp n da g) := qs_asg he (qg_tup hc hg hn hst) hs hw h1
/-- name op= e -/
def dAug (i : Nat) (g : G2) (da : DE) : DS := fun E δ μ => ∃ y, δ[i]? = some (some y) ∧ da δ μ E.ex fun d μ1 => g y d μ1 fun z μ2 => E.nx (δ.set i (some z)) μ2
def IpQ (X : Cx) (op : Operator) (g : G2) : Prop := ∀ (G H : Hp) (μ : Mu) (x y : V) (d e : D) (k : DK) (Q : VK), Rep X.K G H μ → At X.K G x d → At X.K G y e → g d e μ k → FinV X.K G k Q → rW X (inplaceOp op) x y H Q
theorem ipW {op : Operator} : PIp X op (rW X (inplaceOp op)) := fun pins s σ H x y v u Q I rx ry h => h pins s σ v u I rx ry
theorem qs_aug {i : Nat} {x : Str} {p' : Pos} {op : Operator} {g : G2} (hN : X.N.Nodup) (hi : X.N[i]? = some x) (hx : Loc X.env.scope x) (he : QE X W e da) (ho : IpQ X op g) (hf : X.fn x = true ∨ X.env.scope.names.lookup x = some .local := by first | exact .inl rfl | exact .inr rfl | assumption) :
    QS X W (.AugAssign (.Name x p') op e pos) (dAug i g da) :=
  imS (ps_aug hN hi hx he ipW hf) fun T σ H ⟨G, δ, μ, E, R, S, ⟨y, ey, q⟩, f⟩ => by
    obtain ⟨v, e1, A⟩ := S.2 i y ey
    exact ⟨v, e1, G, δ, μ, E.ex, _, R, S, q, fun G1 H1 u d μ1 S1 R1 A1 q1 => ho G1 H1 μ1 v u y d _ _ R1 (A.up S1) A1 q1 fun G2 H2 w z μ2 S2 R2 A2 q2 => f.nx G2 H2 _ _ μ2 (S1.trans S2) R2 ((S.up (S1.trans S2)).set A2) q2, f.ex⟩
theorem ip_int0 {op : Operator} {g : Int → Int → D} {gv : Int → Int → V} (h : OpR X (inplaceOp op) (rI0 gv)) (hg : ∀ G i j, At X.K G (gv i j) (g i j)) : IpQ X op (gInt0 g) := by
  intro G H μ x y d e k Q R ax ay q f
  cases d with
  | int i =>
    cases e with
    | int j => cases ax; cases ay; exact byR h ⟨i, j, rfl, rfl, f G H _ _ μ (Same.refl _) R (hg G i j) q⟩
    | _ => exact q.elim
  | _ => exact (show False from q).elim
theorem ipq_add : IpQ X .Add (gInt0 fun i j => .int (i + j)) := ip_int0 iop_add fun _ _ _ => .int _
theorem ipq_sub : IpQ X .Sub (gInt0 fun i j => .int (i - j)) := ip_int0 iop_sub fun _ _ _ => .int _
/-- o[i] = e -/
def dSetAt (dv dp di : DE) : DS := fun E δ μ => dv δ μ E.ex fun d μ1 => dp δ μ1 E.ex fun p μ2 => di δ μ2 E.ex fun i μ3 => ∃ a xs j n, p = .mref a ∧ i = .int j ∧ μ3 a = some (.lst xs) ∧ ixN xs.length j = some n ∧ E.nx δ (put μ3 a (.lst (xs.set n d)))
theorem set_at {K : PySem.W.Frag} {G H : Hp} {μ : Mu} {p i v : V} {dp di d : D} {a : Addr} {xs : List D} {j : Int} {n : Nat} {Q : Hp → Prop} (R : Rep K G H μ) (Ap : At K G p dp) (Ai : At K G i di) (Av : At K G v d) (e1 : dp = .mref a) (e2 : di = .int j) (e3 : μ a = some (.lst xs)) (e4 : ixN xs.length j = some n)
    (f : ∀ H', Rep K G H' (put μ a (.lst (xs.set n d))) → Q H') : rSetL p i v H Q := by
  subst e1 e2
  cases Ap
  cases Ai
  obtain ⟨ga, vs, h1, h2⟩ := R.mu a _ e3
  exact ⟨a, vs, j, n, rfl, rfl, h1, by rw [h2.length]; exact e4, f _ (R.lay ga (h2.set n Av))⟩
theorem qs_setAt {i v : Expr} {di dv : DE} {p' : Pos} (hv : QE X W v dv) (ho : QE X W o da) (hi : QE X W i di)
    (ha : ∀ v, assign (.Subscript o i p') X.env v = (do
      let ov ← holding [v] (eval o X.env)
      let iv ← holding [v, ov] (eval i X.env)
      standAt p'
      holding [v, ov, iv] (setItem ov iv v)
      release [v, ov, iv] []) := by intro _; rfl)
    (hs : swapsWithSole [.Subscript o i p'] v pos.line X.env = pure false := by rfl) (hw : swappedStores [.Subscript o i p'] v X.env = pure none := by rfl)
    (h1 : (assignEach [.Subscript o i p'] X.env).map (·.2) = [assign (.Subscript o i p') X.env] := by rfl) : QS X W (.Assign [.Subscript o i p'] v pos) (dSetAt dv da di) :=
  imS (ps_asg hv (pg_sub ho hi set_list ha) hs hw h1) fun T σ H ⟨G, δ, μ, E, R, S, q, f⟩ => ⟨G, δ, μ, E.ex, _, R, S, q, fun G1 H1 w d μ1 S1 R1 A1 q1 =>
    ⟨G1, δ, μ1, E.ex, _, R1, S.up S1, q1, fun G2 H2 p dp μ2 S2 R2 A2 q2 =>
      ⟨G2, δ, μ2, E.ex, _, R2, S.up (S1.trans S2), q2, fun G3 H3 i di μ3 S3 R3 A3 ⟨a, xs, j, n, e1, e2, e3, e4, q3⟩ =>
        set_at R3 (A2.up S3) A3 (A1.up (S2.trans S3)) e1 e2 e3 e4 fun H4 R4 => f.nx G3 H4 σ δ _ ((S1.trans S2).trans S3) R4 (S.up ((S1.trans S2).trans S3)) q3, f.ex.up (S1.trans S2)⟩, f.ex.up S1⟩, f.ex⟩
/-- o[i] op= e, a list's item at a place told by a number that is not negative -/
def rGetL (K : PySem.W.Frag) : V → V → Hp → VK → Prop := fun x y H Q => ∃ p xs i v, x = .ref p ∧ y = .int i ∧ SqL K H p xs ∧ 0 ≤ i ∧ i < 2 ^ 62 ∧ xs[i.toNat]? = some v ∧ Q v H
theorem get_list : PGet X (rGetL X.K) := by
  intro pins s σ H o i ov iv Q I ro ri h
  obtain ⟨p, xs, j, v, rfl, rfl, hs, h0, h1, e, q⟩ := h
  cases ro
  obtain ⟨t, rfl⟩ := ri
  obtain ⟨its, r, pl, hz⟩ := I.list hs
  obtain ⟨w, ew, rw'⟩ := r.get e
  exact wpAny_getItem_list pl.isList h0 (by omega) (by simpa using ew) ⟨v, H, I, rw', q⟩
def dAugAt (g : G2) (dp di dv : DE) : DS := fun E δ μ => dp δ μ E.ex fun p μ1 => di δ μ1 E.ex fun i μ2 => ∃ a xs n y, p = .mref a ∧ i = .int (n : Nat) ∧ μ2 a = some (.lst xs) ∧ n < 1000000 ∧ xs[n]? = some y ∧
  dv δ μ2 E.ex fun d μ3 => g y d μ3 fun z μ4 => ∃ ys, μ4 a = some (.lst ys) ∧ n < ys.length ∧ E.nx δ (put μ4 a (.lst (ys.set n z)))
theorem qs_augAt {i v : Expr} {di dv : DE} {p' : Pos} {op : Operator} {g : G2} (ho : QE X W o da) (hi : QE X W i di) (hv : QE X W v dv) (hg : IpQ X op g)
    (ha : ∀ ov iv new, augStore i ov iv new = (do holding [new, ov, iv] (setItem ov iv new); release [new, ov, iv] []; pure .next) := by intros; rfl) : QS X W (.AugAssign (.Subscript o i p') op v pos) (dAugAt g da di dv) :=
  imS (ps_augS ho hi get_list hv ipW set_list ha) fun T σ H ⟨G, δ, μ, E, R, S, q, f⟩ => ⟨G, δ, μ, E.ex, _, R, S, q, fun G1 H1 p dp μ1 S1 R1 A1 q1 =>
    ⟨G1, δ, μ1, E.ex, _, R1, S.up S1, q1, fun G2 H2 i di μ2 S2 R2 A2 ⟨a, xs, n, y, e1, e2, e3, hn, e4, q2⟩ => by
      subst e1 e2
      cases A1
      cases A2
      obtain ⟨ga, vs, h1, h2⟩ := R2.mu a _ e3
      obtain ⟨w, e5, Ay⟩ := h2.get e4
      refine ⟨a, vs, (n : Int), w, rfl, rfl, .of h1, by omega, by omega, by simpa using e5, G2, δ, μ2, E.ex, _, R2, S.up (S1.trans S2), q2, fun G3 H3 u d μ3 S3 R3 A3 q3 => ?_, f.ex.up (S1.trans S2)⟩
      refine hg G3 H3 μ3 w u y d _ _ R3 (Ay.up S3) A3 q3 fun G4 H4 z dz μ4 S4 R4 A4 ⟨ys, e6, hl, q4⟩ => ?_
      have S14 := (S1.trans S2).trans (S3.trans S4)
      exact set_at R4 (.mref a) (.int (n : Int)) A4 rfl rfl e6 (by unfold ixN; rw [if_pos (by omega), if_pos (by omega)]; simp) fun H5 R5 => f.nx G4 H5 σ δ _ S14 R5 (S.up S14) q4, f.ex.up S1⟩, f.ex⟩

/-! ### methods of lists that may change, join -/
def dApp (dp dv : DE) : DE := fun δ μ x k => dp δ μ x fun p μ1 => ∃ a ys, p = .mref a ∧ μ1 a = some (.lst ys) ∧ dv δ μ1 x fun d μ2 => ∃ xs, μ2 a = some (.lst xs) ∧ xs.length < sizeLine ∧ k .non (put μ2 a (.lst (xs ++ [d])))
theorem mt_of {id : String} {r : V → List V → Hp → VK → Prop} (h : MtM X id r) : MtR X id r := h
theorem q_app {v : Expr} {dv : DE} {apos : Pos} (ho : QE X W o da) (hv : QE X W v dv) (hb : attributeBase o "append" X.env (eval o X.env) = eval o X.env := by rfl)
    (hfew : ((backTo pos (starEach [v] X.env)).all (fun x => !x.1) && (backToKw pos (keywordEach [] X.env)).all (fun x => x.1.isSome) && decide (([v] : List Expr).length + ([] : List Keyword).length + (if ([] : List Keyword).isEmpty then 0 else 1) < 30)) = true := by rfl)
    (hline : (apos.endLine == pos.line) = true := by rfl) (hs : starEach [v] X.env = (false, eval v X.env) :: starEach [] X.env := by rfl) (hp : (backTo pos (starEach [] X.env)).any (·.1) = false := by rfl) :
    QE X W (.Call (.Attribute o "append" apos) [v] [] pos) (dApp da dv) :=
  imE (pe_bm PySem.F.plainAttrs_list PySem.F.slot_list_append PySem.F.type_list_append mt_append ho (pa_cons hv pa_nil hs) hb hfew hline hs hp) fun σ H Q ⟨G, δ, μ, x, k, R, S, q, f, fx⟩ => ⟨G, δ, μ, x, _, R, S, q, fun G1 H1 p dp μ1 S1 R1 A1 ⟨a, ys, e1, e2, q1⟩ => by
    subst e1
    cases A1
    obtain ⟨ga, vs, h1, h2⟩ := R1.mu a _ e2
    refine ⟨.inl ⟨rfl, vs, .of h1⟩, G1, δ, μ1, x, _, R1, S.up S1, q1, fun G2 H2 u d μ2 S2 R2 A2 ⟨xs, e3, hl, q2⟩ => ?_, fx.up S1⟩
    obtain ⟨ga2, vs2, h3, h4⟩ := R2.mu a _ e3
    exact ⟨a, vs2, u, rfl, rfl, h3, by rw [h4.length]; exact hl, f G2 _ .non .non _ (S1.trans S2) (R2.lay ga2 (h4.append (.cons A2 .nil))) .non q2⟩, fx⟩
def dPop (dp : DE) : DE := fun δ μ x k => dp δ μ x fun p μ1 => ∃ a xs y, p = .mref a ∧ μ1 a = some (.lst xs) ∧ xs[xs.length - 1]? = some y ∧ k y (put μ1 a (.lst xs.dropLast))
theorem q_pop {apos : Pos} (ho : QE X W o da) (hb : attributeBase o "pop" X.env (eval o X.env) = eval o X.env := by rfl) (hline : (apos.endLine == pos.line) = true := by rfl) : QE X W (.Call (.Attribute o "pop" apos) [] [] pos) (dPop da) :=
  imE (pe_bm0 PySem.F.plainAttrs_list PySem.F.slot_list_pop PySem.F.type_list_pop mt_pop ho hb hline) fun σ H Q ⟨G, δ, μ, x, k, R, S, q, f, fx⟩ => ⟨G, δ, μ, x, _, R, S, q, fun G1 H1 p dp μ1 S1 R1 A1 ⟨a, xs, y, e1, e2, e3, q1⟩ => by
    subst e1
    cases A1
    obtain ⟨ga, vs, h1, h2⟩ := R1.mu a _ e2
    obtain ⟨w, e4, Ay⟩ := h2.get e3
    exact ⟨.inl ⟨rfl, vs, .of h1⟩, a, vs, w, rfl, rfl, h1, by rw [h2.length]; exact e4, f G1 _ w y _ S1 (R1.lay ga h2.dropLast) Ay q1⟩, fx⟩
def strsOf : List D → Option (List Str)
  | [] => some []
  | .str z :: r => (strsOf r).map (z :: ·)
  | _ :: _ => none
theorem strs_at {K : PySem.W.Frag} {G : Hp} : ∀ {ds : List D} {vs : List V} {ys : List Str}, AtAll K G vs ds → strsOf ds = some ys → vs = ys.map V.str
  | [], _, _, A, e => by cases A; cases e; rfl
  | .str z :: r, _, ys, A, e => by
    cases A with
    | cons a1 a2 =>
      cases a1
      cases q : strsOf r with
      | none => simp [strsOf, q] at e
      | some zs =>
        simp only [strsOf, q, Option.map_some, Option.some.injEq] at e
        subst e
        rw [strs_at a2 q]
        rfl
  | .non :: _, _, _, _, e => by cases e
  | .bl _ :: _, _, _, _, e => by cases e
  | .int _ :: _, _, _, _, e => by cases e
  | .lst _ :: _, _, _, _, e => by cases e
  | .tup _ :: _, _, _, _, e => by cases e
  | .scr _ :: _, _, _, _, e => by cases e
  | .mref _ :: _, _, _, _, e => by cases e
  | .exc _ _ _ _ _ :: _, _, _, _, e => by cases e
def dJoin (ds dl : DE) : DE := fun δ μ x k => ds δ μ x fun d μ1 => ∃ z, d = .str z ∧ dl δ μ1 x fun l μ2 => ∃ xs ys, seqOf μ2 l = some xs ∧ strsOf xs = some ys ∧ (ys.map (·.length)).sum + ys.length * z.length ≤ 16777216 ∧ k (.str (Txt.join z ys)) μ2
theorem q_join {apos : Pos} (ho : QE X W o da) (he : QE X W e db) (hs : starEach [e] X.env = [(false, eval e X.env)] := by rfl) (hb : attributeBase o "join" X.env (eval o X.env) = eval o X.env := by rfl) (hl : (apos.endLine == pos.line) = true := by rfl) :
    QE X W (.Call (.Attribute o "join" apos) [e] [] pos) (dJoin da db) :=
  imE (pe_join ho he hs hb hl) fun σ H Q ⟨G, δ, μ, x, k, R, S, q, f, fx⟩ => ⟨G, δ, μ, x, _, R, S, q, fun G1 H1 v d μ1 S1 R1 A1 ⟨z, e1, q1⟩ => by
    subst e1
    cases A1
    refine ⟨⟨z, rfl⟩, G1, δ, μ1, x, _, R1, S.up S1, q1, fun G2 H2 l dl μ2 S2 R2 A2 ⟨xs, ys, e2, e3, hz, q2⟩ => ?_, fx.up S1⟩
    obtain ⟨p, vs, rfl, hl, hA⟩ := seq_at R2 A2 e2
    have ev := strs_at hA e3
    subst ev
    exact ⟨z, p, ys, rfl, rfl, .inl hl, hz, f G2 H2 _ _ μ2 (S1.trans S2) R2 (.str _) q2⟩, fx⟩
end
end Once

namespace Once
open PySem PySem.Spec PyProof.Rows L2
/-! ### what is walked -/
abbrev DI := Ds → Mu → DX → (List D → (Mu → Prop) → Mu → Prop) → Prop
structure Yields (K : PySem.W.Frag) (G : Hp) (J : It) (items : List D) (st : Mu → Prop) : Prop where
  go : ∀ (i : Nat) G' H μ, Same G G' → Rep K G' H μ → st μ → i < items.length → J.go i H
  yld : ∀ (i : Nat) G' H μ x H', Same G G' → Rep K G' H μ → st μ → J.yld i H x H' → ∃ G2, Same G' G2 ∧ (∀ ν, Rep K G' H ν → Rep K G2 H' ν) ∧ ∀ d, items[i]? = some d → At K G2 x d
  stop : ∀ (i : Nat) G' H μ, Same G G' → Rep K G' H μ → st μ → items.length ≤ i → J.stop i H
def liftI (K : PySem.W.Frag) (mg : Str → Option Value) (W : WX) (d : DI) : TI := fun σ H R => ∃ (G : Hp) (δ : Ds) (μ : Mu) (x : DX) (k : List D → (Mu → Prop) → Mu → Prop), Rep K G H μ ∧ SlotsAt K G σ δ ∧ d δ μ x k ∧
  (∀ G' H' J items st μ', Same G G' → Rep K G' H' μ' → Yields K G' J items st → k items st μ' → R J H') ∧ FinX K mg W G x
abbrev QI (X : Cx) (W : WX) (tg iter : Expr) (d : DI) : Prop := PI X tg iter (liftI X.K X.mg W d)
theorem imI {X : Cx} {tg e : Expr} {t t' : TI} (h : PI X tg e t) (i : ∀ σ H Q, t' σ H Q → t σ H Q) : PI X tg e t' := ⟨fun pins s σ H R I q => h.run pins s σ H R I (i σ H R q)⟩
def dIter (da : DE) : DI := fun δ μ x k => da δ μ x fun d μ1 => ∃ xs, seqOf μ1 d = some xs ∧ k xs (fun μ' => seqOf μ' d = some xs) μ1
def dIterT (da : DE) : DI := fun δ μ x k => da δ μ x fun d μ1 => ∃ xs, d = .tup xs ∧ k xs (fun _ => True) μ1
def signsD (z : Str) : List D := z.cps.toList.map fun c => .str ⟨#[c]⟩
def dIterS (da : DE) : DI := fun δ μ x k => da δ μ x fun d μ1 => ∃ z, d = .str z ∧ k (signsD z) (fun _ => True) μ1
def rngD (lo : Int) (n : Nat) : List D := (List.range n).map fun i => .int (lo + (i : Nat))
def dRng1 (t : DA) : DI := fun δ μ x k => t δ μ x fun ds μ1 => ∃ j : Int, ds = [.int j] ∧ j < 2 ^ 62 ∧ -(2 ^ 62) ≤ j ∧ k (rngD 0 j.toNat) (fun _ => True) μ1
def dRng2 (t : DA) : DI := fun δ μ x k => t δ μ x fun ds μ1 => ∃ i j : Int, ds = [.int i, .int j] ∧ i < 2 ^ 62 ∧ -(2 ^ 62) ≤ i ∧ j < 2 ^ 62 ∧ -(2 ^ 62) ≤ j ∧ k (rngD i (j - i).toNat) (fun _ => True) μ1
theorem Rep.ups {K : PySem.W.Frag} {G H : Hp} {μ : Mu} (R : Rep K G H μ) : Same G H := R.sub
section
variable {X : Cx} {W : WX} {a b e o tg : Expr} {es : List Expr} {da db : DE} {t : DA} {pos : Pos} {st : Stmt} {rest : List Stmt} {d1 d2 : DS}
theorem yl_list {K : PySem.W.Frag} {G : Hp} {a : Addr} {d : D} {xs : List D} (A : At K G (.ref a) d) : Yields K G (Itl K a) xs (fun μ => seqOf μ d = some xs) where
  go := fun i G' H μ S R e hl => by
    obtain ⟨p, vs, q, hs, ha⟩ := seq_at R (A.up S) e
    cases q
    have hv : i < vs.length := by rw [ha.length]; exact hl
    exact ⟨vs, vs[i], hs, by simp [hv]⟩
  yld := fun i G' H μ x H' S R e y => by
    obtain ⟨p, vs, q, hs, ha⟩ := seq_at R (A.up S) e
    cases q
    obtain ⟨eh, y⟩ := y
    subst eh
    refine ⟨G', Same.refl _, fun _ r => r, fun d' e' => ?_⟩
    obtain ⟨w, e1, e2⟩ := ha.get e'
    rw [y vs hs] at e1
    cases e1
    exact e2
  stop := fun i G' H μ S R e hl => by
    obtain ⟨p, vs, q, hs, ha⟩ := seq_at R (A.up S) e
    cases q
    exact ⟨vs, hs, by rw [ha.length]; exact hl⟩
theorem yl_tup {K : PySem.W.Frag} {G : Hp} {a : Addr} {vs : List V} {xs : List D} (h : SqT K G a vs) (ha : AtAll K G vs xs) : Yields K G (Itt K a) xs (fun _ => True) where
  go := fun i G' H μ S R _ hl => by
    have hv : i < vs.length := by rw [ha.length]; exact hl
    exact ⟨vs, vs[i], sameT (S.trans R.sub) h, by simp [hv]⟩
  yld := fun i G' H μ x H' S R _ y => by
    obtain ⟨eh, y⟩ := y
    subst eh
    refine ⟨G', Same.refl _, fun _ r => r, fun d' e' => ?_⟩
    obtain ⟨w, e1, e2⟩ := ha.get e'
    rw [y vs (sameT (S.trans R.sub) h)] at e1
    cases e1
    exact e2.up S
  stop := fun i G' H μ S R _ hl => ⟨vs, sameT (S.trans R.sub) h, by rw [ha.length]; exact hl⟩
theorem yl_str {K : PySem.W.Frag} {G : Hp} (z : Str) : Yields K G (Its z) (signsD z) (fun _ => True) where
  go := fun i G' H μ S R _ hl => by
    have : i < z.cps.size := by simpa [signsD] using hl
    exact this
  yld := fun i G' H μ x H' S R _ y => by
    obtain ⟨eh, c, e1, e2⟩ := y
    subst eh
    refine ⟨G', Same.refl _, fun _ r => r, fun d' e' => ?_⟩
    subst e2
    have e3 : z.cps.toList[i]? = some c := by simpa using e1
    have e4 : d' = .str ⟨#[c]⟩ := by
      unfold signsD at e'
      rw [List.getElem?_map, e3] at e'
      exact (Option.some.inj e').symm
    subst e4
    exact .str _
  stop := fun i G' H μ S R _ hl => by
    have : z.cps.size ≤ i := by simpa [signsD] using hl
    exact this
theorem yl_rng {K : PySem.W.Frag} {G : Hp} (lo : Int) (n : Nat) : Yields K G (Itr lo n) (rngD lo n) (fun _ => True) where
  go := fun i G' H μ S R _ hl => by
    have : i < n := by simpa [rngD] using hl
    exact this
  yld := fun i G' H μ x H' S R _ y => by
    obtain ⟨eh, e1⟩ := y
    subst eh e1
    refine ⟨G', Same.refl _, fun _ r => r, fun d' e' => ?_⟩
    have hi : i < n := by
      have := (List.getElem?_eq_some_iff.mp e').1
      simpa [rngD] using this
    unfold rngD at e'
    rw [List.getElem?_map, List.getElem?_range hi] at e'
    have e4 := (Option.some.inj e').symm
    subst e4
    exact .int _
  stop := fun i G' H μ S R _ hl => by
    have : n ≤ i := by simpa [rngD] using hl
    exact this
theorem qi_list (h : QE X W e da) : QI X W tg e (dIter da) := imI (pi_list h) fun σ H Q ⟨G, δ, μ, x, k, R, S, q, f, fx⟩ => ⟨G, δ, μ, x, _, R, S, q, fun G1 H1 v d μ1 S1 R1 A1 ⟨xs, e1, q1⟩ => by
  obtain ⟨p, vs, ev, hs, ha⟩ := seq_at R1 A1 e1
  subst ev
  exact ⟨p, rfl, ⟨vs, hs⟩, f G1 H1 _ xs _ μ1 S1 R1 (yl_list A1) q1⟩, fx⟩
theorem qi_tup (h : QE X W e da) : QI X W tg e (dIterT da) := imI (pi_tup h) fun σ H Q ⟨G, δ, μ, x, k, R, S, q, f, fx⟩ => ⟨G, δ, μ, x, _, R, S, q, fun G1 H1 v d μ1 S1 R1 A1 ⟨xs, e1, q1⟩ => by
  subst e1
  cases A1 with
  | tup h1 r1 => exact ⟨_, rfl, ⟨_, sameT R1.sub h1⟩, f G1 H1 _ xs _ μ1 S1 R1 (yl_tup h1 r1) q1⟩, fx⟩
theorem qi_str (h : QE X W e da) : QI X W tg e (dIterS da) := imI (pi_str h) fun σ H Q ⟨G, δ, μ, x, k, R, S, q, f, fx⟩ => ⟨G, δ, μ, x, _, R, S, q, fun G1 H1 v d μ1 S1 R1 A1 ⟨z, e1, q1⟩ => by
  subst e1
  cases A1
  exact ⟨z, rfl, f G1 H1 _ _ _ μ1 S1 R1 (yl_str z) q1⟩, fx⟩
theorem qi_rng1 {p : Pos} (hg : Gl X "range") (hm : X.mg "range" = none) (h : QA X W [a] t) (hs : starEach [a] X.env = [(false, eval a X.env)] := by rfl) : QI X W tg (.Call (.Name "range" p) [a] [] pos) (dRng1 t) :=
  imI (pi_range1 hg hm h hs) fun σ H Q ⟨G, δ, μ, x, k, R, S, q, f, fx⟩ => ⟨G, δ, μ, x, _, R, S, q, fun G1 H1 vs ds μ1 S1 R1 A1 _ ⟨j, e1, h1, h2, q1⟩ => by
    subst e1
    match vs, A1 with
    | [_], .cons (.int _) .nil => exact ⟨j, rfl, h2, h1, f G1 H1 _ _ _ μ1 S1 R1 (yl_rng 0 _) q1⟩, fx⟩
theorem qi_rng2 {p : Pos} (hg : Gl X "range") (hm : X.mg "range" = none) (h : QA X W [a, b] t) (hs : starEach [a, b] X.env = [(false, eval a X.env), (false, eval b X.env)] := by rfl) (hs2 : starEach [b] X.env = [(false, eval b X.env)] := by rfl) :
    QI X W tg (.Call (.Name "range" p) [a, b] [] pos) (dRng2 t) :=
  imI (pi_range2 hg hm h hs hs2) fun σ H Q ⟨G, δ, μ, x, k, R, S, q, f, fx⟩ => ⟨G, δ, μ, x, _, R, S, q, fun G1 H1 vs ds μ1 S1 R1 A1 _ ⟨i, j, e1, h1, h2, h3, h4, q1⟩ => by
    subst e1
    match vs, A1 with
    | [_, _], .cons (.int _) (.cons (.int _) .nil) => exact ⟨i, j, rfl, ⟨h2, h1, h4, h3⟩, f G1 H1 _ _ _ μ1 S1 R1 (yl_rng i _) q1⟩, fx⟩

/-! ### for -/
def forD (g : DG) (body : DS) (st : Mu → Prop) (E : DEnds) : List D → Ds → Mu → Prop
  | [], δ, μ => st μ ∧ E.nx δ μ
  | d :: r, δ, μ => st μ ∧ g d δ μ fun δ1 μ1 => body { E with nx := forD g body st E r, ct := forD g body st E r, bk := E.nx } δ1 μ1
def dFor (it : DI) (g : DG) (body : DS) : DS := fun E δ μ => it δ μ E.ex fun items st μ1 => forD g body st E items δ μ1
theorem qs_for {iter : Expr} {body : List Stmt} {it : DI} {g : DG} {db : DS} (hp : PassesOwn (model X.prog X.w) X.A X.env X.xe) (hc : X.calm = true) (hi : QI X W tg iter it) (hg : QG X tg g) (hb : QSs X W body db)
    (hs : ∀ x, foldedSetIterable iter X.env x = pure x := by intro _; rfl) : QS X W (.For tg iter body [] pos) (dFor it g db) := by
  refine imS (ps_for hp hc hi hg hb hs) fun T σ H ⟨G, δ, μ, E, R, S, q, f⟩ => ⟨G, δ, μ, E.ex, _, R, S, q, fun G1 H1 J items st μ1 S1 R1 Y q1 => ?_, f.ex⟩
  refine ⟨fun i m σ' H' => m = items.length - i ∧ ∃ G' δ' μ', Same G1 G' ∧ Rep X.K G' H' μ' ∧ SlotsAt X.K G' σ' δ' ∧ forD g db st E (items.drop i) δ' μ', ⟨_, rfl, G1, δ, μ1, Same.refl _, R1, S.up S1, q1⟩, ?_⟩
  rintro i m σ2 H2 ⟨rfl, G2, δ2, μ2, S2, R2, Z2, q2⟩
  by_cases hl : i < items.length
  · rw [List.drop_eq_getElem_cons hl] at q2
    obtain ⟨hst, q2⟩ := q2
    refine .inr ⟨Y.go i G2 H2 μ2 S2 R2 hst hl, fun σ' H' => ∃ G' δ' μ', Same G1 G' ∧ Rep X.K G' H' μ' ∧ SlotsAt X.K G' σ' δ' ∧ forD g db st E (items.drop (i + 1)) δ' μ', fun σ' H' w => ⟨items.length - (i + 1), by omega, rfl, w⟩, fun x H3 y => ?_⟩
    obtain ⟨G3, S3, R3, A3⟩ := Y.yld i G2 H2 μ2 x H3 S2 R2 hst y
    refine ⟨G3, δ2, μ2, _, _, R3 μ2 R2, Z2.up S3, A3 _ (by simp [hl]), q2, fun G4 H4 σ4 δ4 μ4 S4 R4 Z4 q4 => ?_⟩
    have S24 := (S2.trans S3).trans S4
    refine ⟨G4, δ4, μ4, _, R4, Z4, q4, ⟨fun G5 H5 σ5 δ5 μ5 S5 R5 Z5 q5 => ⟨G5, δ5, μ5, S24.trans S5, R5, Z5, q5⟩, f.rt.up (S1.trans S24), f.nx.up (S1.trans S24), fun G5 H5 σ5 δ5 μ5 S5 R5 Z5 q5 => ⟨G5, δ5, μ5, S24.trans S5, R5, Z5, q5⟩, f.ex.up (S1.trans S24)⟩⟩
  · rw [List.drop_eq_nil_of_le (by omega)] at q2
    exact .inl ⟨Y.stop i G2 H2 μ2 S2 R2 q2.1 (by omega), f.nx G2 H2 σ2 δ2 μ2 (S1.trans S2) R2 Z2 q2.2⟩
/-! ### while -/
def whileD (c : DT) (body : DS) (E : DEnds) : Nat → Ds → Mu → Prop
  | 0, _, _ => False
  | n + 1, δ, μ => c δ μ E.ex fun b μ1 => if b = true then body { E with nx := whileD c body E n, ct := whileD c body E n, bk := E.nx } δ μ1 else E.nx δ μ1
def dWhile (c : DT) (body : DS) : DS := fun E δ μ => ∃ n, whileD c body E n δ μ
theorem qs_while {c : Expr} {body : List Stmt} {dc : DT} {db : DS} (hp : PassesOwn (model X.prog X.w) X.A X.env X.xe) (hc : QT X W c dc) (hb : QSs X W body db) : QS X W (.While c body [] pos) (dWhile dc db) := by
  refine imS (ps_while hp hc hb) fun T σ H ⟨G, δ, μ, E, R, S, ⟨n, q⟩, f⟩ => ?_
  refine ⟨fun m σ' H' => ∃ G' δ' μ', Same G G' ∧ Rep X.K G' H' μ' ∧ SlotsAt X.K G' σ' δ' ∧ whileD dc db E m δ' μ', ⟨n, G, δ, μ, Same.refl _, R, S, q⟩, ?_⟩
  rintro m σ2 H2 ⟨G2, δ2, μ2, S2, R2, Z2, q2⟩
  cases m with
  | zero => exact q2.elim
  | succ m =>
    refine ⟨G2, δ2, μ2, E.ex, _, R2, Z2, q2, fun G3 H3 b μ3 S3 R3 q3 => ?_, f.ex.up S2⟩
    cases b with
    | true =>
      refine iteT ⟨fun σ' H' => ∃ G' δ' μ', Same G G' ∧ Rep X.K G' H' μ' ∧ SlotsAt X.K G' σ' δ' ∧ whileD dc db E m δ' μ', fun σ' H' w => ⟨m, Nat.lt_succ_self _, w⟩, G3, δ2, μ3, _, R3, Z2.up S3, by simpa using q3, ?_⟩
      have S23 := S2.trans S3
      exact ⟨fun G5 H5 σ5 δ5 μ5 S5 R5 Z5 q5 => ⟨G5, δ5, μ5, S23.trans S5, R5, Z5, q5⟩, f.rt.up S23, f.nx.up S23, fun G5 H5 σ5 δ5 μ5 S5 R5 Z5 q5 => ⟨G5, δ5, μ5, S23.trans S5, R5, Z5, q5⟩, f.ex.up S23⟩
    | false => exact iteF (f.nx G3 H3 σ2 δ2 μ3 (S2.trans S3) R3 (Z2.up S3) (by simpa using q3))

/-! ### list comprehensions with one name -/
abbrev noX : DX := fun _ _ _ _ => False
abbrev wF : WX := fun _ _ _ _ => False
theorem fin_noX {K : PySem.W.Frag} {mg : Str → Option Value} {W : WX} {G : Hp} : FinX K mg W G noX := fun _ _ _ _ _ _ _ _ _ _ _ _ _ z => z.elim
abbrev QTs (X : Cx) (W : WX) (ifs : List Expr) (d : DT) : Prop := PTs X ifs (liftT X.K X.mg W d)
theorem imTs {es : List Expr} {t t' : TT} (h : PTs X es t) (i : ∀ σ H Q, t' σ H Q → t σ H Q) : PTs X es t' := ⟨fun pins s σ H Q I q => h.run pins s σ H Q I (i σ H Q q)⟩
def dYes : DT := fun _ μ _ k => k true μ
theorem qts_nil : QTs X W [] dYes := imTs pts_nil fun σ H Q ⟨G, δ, μ, x, k, R, S, q, f, fx⟩ => f G H true μ (Same.refl _) R q
theorem qts_one {c : Expr} {d : DT} (h : QT X W c d) : QTs X W [c] d := pts_one h
def compD (i : Nat) (tt : DT) (te : DE) (δ : Ds) (st : Mu → Prop) (a : Addr) (k : List D → Mu → Prop) : List D → List D → Mu → Prop
  | [], acc, μ => st μ ∧ k acc μ
  | d :: r, acc, μ => st μ ∧ tt (δ.set i (some d)) (put μ a (.lst acc)) noX fun b μ1 =>
      if b = true then te (δ.set i (some d)) μ1 noX fun y μ2 => ∃ μ3, μ2 = put μ3 a (.lst acc) ∧ μ3 a = none ∧ acc.length < sizeLine ∧ compD i tt te δ st a k r (acc ++ [y]) μ3
      else ∃ μ3, μ1 = put μ3 a (.lst acc) ∧ μ3 a = none ∧ compD i tt te δ st a k r acc μ3
def dComp (it : DI) (i : Nat) (tt : DT) (te : DE) : DE := fun δ μ x k => it δ μ x fun items st μ1 => ∀ a, μ1 a = none → compD i tt te (δ.set i none) st a (fun acc μ' => k (.lst acc) μ') items [] μ1
/-- .. whose list may change later -/
def dCompM (it : DI) (i : Nat) (tt : DT) (te : DE) : DE := fun δ μ x k => it δ μ x fun items st μ1 => ∀ a, μ1 a = none → compD i tt te (δ.set i none) st a (fun acc μ' => k (.mref a) (put μ' a (.lst acc))) items [] μ1
theorem put_inj {μ ν : Mu} {a : Addr} {m : MO} (h1 : μ a = none) (h2 : ν a = none) (e : put μ a m = put ν a m) : μ = ν := by
  funext b
  by_cases hb : b = a
  · subst hb; rw [h1, h2]
  · have := congrFun e b
    rw [put_ne hb, put_ne hb] at this
    exact this
theorem Rep.unput {K : PySem.W.Frag} {G H : Hp} {μ : Mu} {a : Addr} {m : MO} (R : Rep K G H (put μ a m)) (h : μ a = none) : Rep K G H μ := by
  have := R.drop (a := a)
  rw [cut_put h] at this
  exact this
theorem wipe1 (σ : St) (i : Nat) (v : V) : wipe ((wipe σ [i]).set i (some v)) [i] = wipe σ [i] := by
  show ((σ.set i none).set i (some v)).set i none = σ.set i none
  rw [List.set_set, List.set_set]
/-- what both forms of a comprehension share -/
theorem comp_im {K : PySem.W.Frag} {mg : Str → Option Value} {i : Nat} {dt : DT} {de : DE} {J : It} {items : List D} {stb : Mu → Prop} {G1 H1 : Hp} {σ : St} {δ : Ds} {μ1 : Mu} {kk : List D → Mu → Prop} {D : Addr} {Qd : Hp → Prop}
    (R1 : Rep K G1 H1 μ1) (S : SlotsAt K G1 σ δ) (Y : Yields K G1 J items stb) (hD : H1 D = none) (q : compD i dt de (δ.set i none) stb D kk items [] μ1)
    (fin : ∀ G' H' acc μ', Same G1 G' → Rep K G' H' (put μ' D (.lst acc)) → μ' D = none → kk acc μ' → Qd H') :
    ∃ Wd : Nat → Nat → Hp → Prop, (∃ m, Wd 0 m (upd H1 D (.lst []))) ∧ ∀ j m H, Wd j m H →
      (J.stop j H ∧ Qd H) ∨ (J.go j H ∧ ∃ Nx : Hp → Prop, (∀ H', Nx H' → ∃ m', m' < m ∧ Wd (j + 1) m' H') ∧ ∀ x H', J.yld j H x H' → gName i x (wipe σ [i]) H' fun σ2 H2 => wipe σ2 [i] = wipe σ [i] ∧ liftT K mg wF dt σ2 H2 fun b H3 =>
        if b = true then liftE K mg wF de σ2 H3 fun y H4 => ∃ acc, H4 D = some (.lst acc) ∧ acc.length < sizeLine ∧ Nx (upd H4 D (.lst (acc ++ [y]))) else Nx H3) := by
  have gD := R1.sub.free hD
  have Zw : SlotsAt K G1 (wipe σ [i]) (δ.set i none) := S.setN
  refine ⟨fun j m H => m = items.length - j ∧ ∃ G' acc μ', Same G1 G' ∧ Rep K G' H (put μ' D (.lst acc)) ∧ μ' D = none ∧ compD i dt de (δ.set i none) stb D kk (items.drop j) acc μ', ⟨_, rfl, G1, [], μ1, Same.refl _, R1.lay gD .nil, R1.fresh hD, q⟩, ?_⟩
  rintro j m H2 ⟨rfl, G2, acc, μ2, S2, R2, n2, q2⟩
  by_cases hl : j < items.length
  · rw [List.drop_eq_getElem_cons hl] at q2
    obtain ⟨hst, q2⟩ := q2
    refine .inr ⟨Y.go j G2 H2 μ2 S2 (R2.unput n2) hst hl, fun H' => ∃ G' acc μ', Same G1 G' ∧ Rep K G' H' (put μ' D (.lst acc)) ∧ μ' D = none ∧ compD i dt de (δ.set i none) stb D kk (items.drop (j + 1)) acc μ', fun H' w => ⟨items.length - (j + 1), by omega, rfl, w⟩, fun x H3 y => ?_⟩
    obtain ⟨G3, S3, up3, A3⟩ := Y.yld j G2 H2 μ2 x H3 S2 (R2.unput n2) hst y
    have R3 := up3 _ R2
    have S13 := S2.trans S3
    refine ⟨wipe1 σ i x, G3, (δ.set i none).set i (some items[j]), put μ2 D (.lst acc), noX, _, R3, (Zw.up S13).set (A3 _ (by simp [hl])), by rw [List.set_set] at q2 ⊢; exact q2, fun G4 H4 b μ4 S4 R4 q4 => ?_, fin_noX⟩
    have S14 := S13.trans S4
    cases b with
    | true =>
      refine iteT ⟨G4, (δ.set i none).set i (some items[j]), μ4, noX, _, R4, (Zw.up S14).set ((A3 _ (by simp [hl])).up S4), by rw [List.set_set]; simpa using q4, fun G5 H5 v d μ5 S5 R5 A5 q5 => ?_, fin_noX⟩
      obtain ⟨μ6, e6, n6, hz, q6⟩ := q5
      subst e6
      obtain ⟨gD5, vs, h1, h2⟩ := R5.mu D _ put_same
      refine ⟨vs, h1, by rw [h2.length]; exact hz, G5, acc ++ [d], μ6, S14.trans S5, ?_, n6, q6⟩
      have := R5.lay gD5 (h2.append (.cons A5 .nil))
      rw [put_put] at this
      exact this
    | false =>
      have q4' : ∃ μ3, μ4 = put μ3 D (.lst acc) ∧ μ3 D = none ∧ compD i dt de (δ.set i none) stb D kk (items.drop (j + 1)) acc μ3 := by simpa using q4
      obtain ⟨μ6, e6, n6, q6⟩ := q4'
      subst e6
      exact iteF ⟨G4, acc, μ6, S14, R4, n6, q6⟩
  · rw [List.drop_eq_nil_of_le (by omega)] at q2
    exact .inl ⟨Y.stop j G2 H2 μ2 S2 (R2.unput n2) q2.1 (by omega), fin G2 H2 acc μ2 S2 R2 n2 q2.2⟩
theorem q_comp {elt iter : Expr} {ifs : List Expr} {scope : Scope} {x : Str} {i : Nat} {p : Pos} {it : DI} {dt : DT} {de : DE} (hc : X.calm = true) (hN : X.N.Nodup) (hi : QI X W (.Name x p) iter it) (ok : BlkOk X.N X.env.scope scope [(x, i)])
    (hg : ∀ (s : Shared) (H : Hp) (C : Addr) (cl : List (Str × Addr)) (fp : List Addr), PG (X.blk s H scope (compEnvC scope cl C X.env) fp) (.Name x p) (gName i)) (ht : ∀ (s : Shared) (H : Hp) (C : Addr) (cl : List (Str × Addr)) (fp : List Addr), QTs (X.blk s H scope (compEnvC scope cl C X.env) fp) wF ifs dt)
    (he : ∀ (s : Shared) (H : Hp) (C : Addr) (cl : List (Str × Addr)) (fp : List Addr), QE (X.blk s H scope (compEnvC scope cl C X.env) fp) wF elt de) (hs : ∀ x, foldedSetIterable iter X.env x = pure x := by intro _; rfl) :
    QE X W (.ListComp elt [⟨.Name x p, iter, ifs, 0⟩] scope pos) (dComp it i dt de) :=
  imE (pe_lc (own := [(x, i)]) (g := gName i) hc hN hi ok hg ht he hs) fun σ H Q ⟨G, δ, μ, xx, k, R, S, q, f, fx⟩ => ⟨G, δ, μ, xx, _, R, S, q, fun G1 H1 J items st μ1 S1 R1 Y q1 D hD =>
    comp_im (kk := fun acc μ' => k (.lst acc) μ') R1 (S.up S1) Y hD (q1 D (R1.fresh hD)) fun G' H' acc μ' S' R' n' q' => by
      obtain ⟨vs, h2, S2, R2, A2⟩ := R'.freeze put_same
      rw [cut_put n'] at R2
      exact f _ H' _ _ μ' ((S1.trans S').trans S2) R2 A2 q', fx⟩
theorem q_compM {elt iter : Expr} {ifs : List Expr} {scope : Scope} {x : Str} {i : Nat} {p : Pos} {it : DI} {dt : DT} {de : DE} (hc : X.calm = true) (hN : X.N.Nodup) (hi : QI X W (.Name x p) iter it) (ok : BlkOk X.N X.env.scope scope [(x, i)])
    (hg : ∀ (s : Shared) (H : Hp) (C : Addr) (cl : List (Str × Addr)) (fp : List Addr), PG (X.blk s H scope (compEnvC scope cl C X.env) fp) (.Name x p) (gName i)) (ht : ∀ (s : Shared) (H : Hp) (C : Addr) (cl : List (Str × Addr)) (fp : List Addr), QTs (X.blk s H scope (compEnvC scope cl C X.env) fp) wF ifs dt)
    (he : ∀ (s : Shared) (H : Hp) (C : Addr) (cl : List (Str × Addr)) (fp : List Addr), QE (X.blk s H scope (compEnvC scope cl C X.env) fp) wF elt de) (hs : ∀ x, foldedSetIterable iter X.env x = pure x := by intro _; rfl) :
    QE X W (.ListComp elt [⟨.Name x p, iter, ifs, 0⟩] scope pos) (dCompM it i dt de) :=
  imE (pe_lc (own := [(x, i)]) (g := gName i) hc hN hi ok hg ht he hs) fun σ H Q ⟨G, δ, μ, xx, k, R, S, q, f, fx⟩ => ⟨G, δ, μ, xx, _, R, S, q, fun G1 H1 J items st μ1 S1 R1 Y q1 D hD =>
    comp_im (kk := fun acc μ' => k (.mref D) (put μ' D (.lst acc))) R1 (S.up S1) Y hD (q1 D (R1.fresh hD)) fun G' H' acc μ' S' R' n' q' => f G' H' _ _ _ (S1.trans S') R' (.mref D) q', fx⟩
/-- name = [..] -/
theorem qs_setC {elt iter : Expr} {ifs : List Expr} {scope : Scope} {x y : Str} {i n : Nat} {p py p2 : Pos} {it : DI} {dt : DT} {de : DE} (hc : X.calm = true) (hN : X.N.Nodup) (hy : X.N[n]? = some y) (hyl : X.env.scope.names.lookup y = some .local)
    (hsw : swapsWith (.ListComp elt [⟨.Name x p, iter, ifs, 0⟩] scope p2) (some (.Name y py)) pos.line X.env = pure true) (hi : QI X W (.Name x p) iter it) (ok : BlkOk X.N X.env.scope scope [(x, i)])
    (hg : ∀ (s : Shared) (H : Hp) (C : Addr) (cl : List (Str × Addr)) (fp : List Addr), PG (X.blk s H scope (compEnvC scope cl C X.env) fp) (.Name x p) (gName i)) (ht : ∀ (s : Shared) (H : Hp) (C : Addr) (cl : List (Str × Addr)) (fp : List Addr), QTs (X.blk s H scope (compEnvC scope cl C X.env) fp) wF ifs dt)
    (he : ∀ (s : Shared) (H : Hp) (C : Addr) (cl : List (Str × Addr)) (fp : List Addr), QE (X.blk s H scope (compEnvC scope cl C X.env) fp) wF elt de) (hs : ∀ x, foldedSetIterable iter X.env x = pure x := by intro _; rfl) :
    QS X W (.Assign [.Name y py] (.ListComp elt [⟨.Name x p, iter, ifs, 0⟩] scope p2) pos) (dSet n (dComp it i dt de)) :=
  imS (ps_setLc (i := n) (own := [(x, i)]) (g := gName i) hc hN hy hyl hsw hi ok hg ht he hs) fun T σ H ⟨G, δ, μ, E, R, S, q, f⟩ => ⟨G, δ, μ, E.ex, _, R, S, q, fun G1 H1 J items st μ1 S1 R1 Y q1 D hD =>
    comp_im (Qd := fun H' => gName n (.ref D) σ H' T.nx) (kk := fun acc μ' => E.nx (δ.set n (some (.lst acc))) μ') R1 (S.up S1) Y hD (q1 D (R1.fresh hD)) fun G' H' acc μ' S' R' n' q' => by
      obtain ⟨vs, h2, S2, R2, A2⟩ := R'.freeze put_same
      rw [cut_put n'] at R2
      have S3 := (S1.trans S').trans S2
      exact f.nx _ H' _ _ μ' S3 R2 ((S.up S3).set A2) q', f.ex⟩
end
end Once

namespace Once
open PySem PySem.Spec PyProof.Rows L2

/-! ### defs -/
abbrev DXF := Str → Fs → Mu → Prop
abbrev DF := List D → Mu → DXF → DK → Prop
def spD (K : PySem.W.Frag) (mg : Str → Option Value) (n : Nat) (F : DF) : Sp := fun vs H Q E => ∃ (G : Hp) (μ : Mu) (ds : List D) (x : DXF) (k : DK), Rep K G H μ ∧ AtAll K G vs ds ∧ ds.length = n ∧ F ds μ x k ∧ FinV K G k Q ∧
  ∀ G' H' c fs cls dd μ', Same G G' → Rep K G' H' μ' → XAt K mg G' c fs cls dd → x c fs μ' → E cls dd H'
theorem spD.len {K : PySem.W.Frag} {mg : Str → Option Value} {n : Nat} {F : DF} {vs : List V} {H : Hp} {Q : VK} {E : XK} (h : spD K mg n F vs H Q E) : vs.length = n := by
  obtain ⟨G, μ, ds, x, k, _, A, e, _⟩ := h
  rw [A.length, e]
structure FnD (P : Program) (w : World) (K : PySem.W.Frag) (mg : Str → Option Value) (base : Heap) (k : Nat) (f : Addr) (fd : FuncData) (ps : List Str) (F : DF) : Prop where
  run : ∀ (A : Around) (outer : List Env) (s : Shared) (H : Hp) (args : Args) (us : List Value) (vs : List V) (Q : VK) (E : XK), RoomD k A → Env0 P w K mg base A outer s H → BindsTo s fd args (ps.zip us) → Vals vs us → spD K mg ps.length F vs H Q E →
    codeAny (model P w) A (.call (.ref f) args) (CR (L2N.CX P w) outer P w H s Q E) s
theorem FnD.never {P : Program} {w : World} {K : PySem.W.Frag} {mg : Str → Option Value} {base : Heap} {k : Nat} {f : Addr} {fd : FuncData} {ps : List Str} : FnD P w K mg base k f fd ps (fun _ _ _ _ => False) :=
  ⟨fun _ _ _ _ _ _ _ _ _ _ _ _ _ h => by obtain ⟨_, _, _, _, _, _, _, _, z, _⟩ := h; exact z.elim⟩
def startD (n : Nat) (ds : List D) : Ds := ds.map some ++ List.replicate (n - ds.length) none
def bodyF (n : Nat) (b : DS) : DF := fun ds μ x k => b { nx := fun _ μ' => k .non μ', rt := k, bk := fun _ _ => False, ct := fun _ _ => False, ex := fun _ c fs μ' => x c fs μ' } (startD n ds) μ
theorem start_at {K : PySem.W.Frag} {G : Hp} {N : List Str} {vs : List V} {ds : List D} (A : AtAll K G vs ds) : SlotsAt K G (L2.start N vs) (startD N.length ds) := by
  have hl := A.length
  unfold L2.start startD
  refine ⟨by simp [hl], fun i d e => ?_⟩
  by_cases hi : i < ds.length
  · rw [List.getElem?_append_left (by simpa using hi)] at e
    rw [List.getElem?_map] at e
    have e' : ds[i]? = some d := by
      cases q : ds[i]? with
      | none => rw [q] at e; cases e
      | some z => rw [q] at e; cases e; rfl
    obtain ⟨v, h1, h2⟩ := A.get e'
    exact ⟨v, by rw [List.getElem?_append_left (by simpa [hl] using hi), List.getElem?_map, h1]; rfl, h2⟩
  · rw [List.getElem?_append_right (by simpa using hi), List.getElem?_replicate] at e
    split at e <;> cases e
/-- a def, by its body -/
theorem fn_ofD {P : Program} {w : World} {K : PySem.W.Frag} {mg : Str → Option Value} {base : Heap} {k : Nat} {f : Addr} {name qual : Str} {params : Arguments} {body : List Stmt} {scope : Scope} {dV kV doc pm cdv ct oc : Value} {an od : Option Addr} {osl : Array (Option Value)} {N ps : List Str} {b : DS}
    (lk : K.lookup f = some ⟨oc, od, .func (PySem.W.fnOf name qual params body scope dV kV doc pm an cdv ct), osl⟩) (hcd : PySem.W.codeIn K cdv qual = true) (S : FnScope N ps scope)
    (hbody : ∀ (A : Around) (outer : List Env) (s : Shared) (H : Hp) (E : XK), RoomD k (A.deeper (envOfC qual scope s.heap.objs.size f cdv)) →
      QSs (cxOf (L2N.CX P w) P w K mg base N qual scope f cdv A outer s H E) (fun cls d _ H' => E cls d H') body b) : FnD P w K mg base (k + 1) f (PySem.W.fnOf name qual params body scope dV kV doc pm an cdv ct) ps (bodyF N.length b) := by
  refine ⟨fun A outer s H args us vs Q E hr e0 hb r hsp => ?_⟩
  have hl : vs.length = ps.length := hsp.len
  have KX : K.In s.heap := e0.mod.kin.keeps fun a o e => (e0.bs a o e).1
  have lim : s.heap.NoLimit := e0.mod.nolimit.keeps fun a o e => (e0.bs a o e).1
  have hkind : ∀ y ∈ ps.zip us, scope.names.lookup y.1 = some .local ∨ (scope.names.lookup y.1 = some .cell ∧ ((cellsFrom (s.heap.objs.size + 1) scope.names []).lookup y.1).isSome = true) := fun y hy =>
    (S.par y.1 (List.of_mem_zip (a := y.1) (b := y.2) hy).1).elim (fun q => .inl q) fun q => .inr ⟨q, PySem.W.cellsFrom_some _ _ _ (.inl q)⟩
  have hd : A.depth < recursionLimit := by have := hr.dp; omega
  refine codeAny_call_function hd (KX _ _ lk) rfl S.co S.gen rfl (PySem.W.codeRec_of KX hcd) (hb _ _ _ _ (wpAny_newFunctionEnv_cells S.kind hkind fun env he s1 x => ?_))
  subst he
  refine ⟨lim.keeps x.toInCall.keep, codeAny_func ?_⟩
  have ht := hbody A outer s H E (hr.deeper _)
  have I : Inv (cxOf (L2N.CX P w) P w K mg base N qual scope f cdv A outer s H E) [] (L2.start N vs) H s1 := inv_start S hr.hd e0 hl r x
  have fin : ∀ {σ' : St} {H' : Hp} {v : V} {u : Value} {s' : Shared}, Inv (cxOf (L2N.CX P w) P w K mg base N qual scope f cdv A outer s H E) [] σ' H' s' → RelV v u → Q v H' → CE outer P w H s Q u s' := fun J rv q => ⟨_, _, J.os, J.bare, J.base, J.hok, rv, q⟩
  obtain ⟨G, μ, ds, xf, kf, R, At0, el, q, f1, f2⟩ := hsp
  refine wpAny_mono (ht.run [] s1 (L2.start N vs) H { nx := fun _ H' => Q .non H', rt := Q } I ⟨G, startD N.length ds, μ, _, R, start_at At0, q, ⟨fun G' H' _ _ μ' S' R' _ q' => f1 G' H' .non .non μ' S' R' .non q', f1, fun _ _ _ _ _ _ _ _ z => z.elim, fun _ _ _ _ _ _ _ _ z => z.elim, fun G' H' _ _ c fs cls dd μ' S' R' _ X' q' => f2 G' H' c fs cls dd μ' S' R' X' q'⟩⟩) (fun fl s' hs => ?_) fun e s' hs => hs
  cases fl with
  | ret u => obtain ⟨v, σ', H', J, rv, q⟩ := hs; exact fin J rv q
  | next => obtain ⟨σ', H', J, q⟩ := hs; exact fin (v := V.non) (u := Value.none) J rfl q
  | brk => obtain ⟨_, _, _, z⟩ := hs; exact False.elim z
  | cont => obtain ⟨_, _, _, z⟩ := hs; exact False.elim z
theorem _root_.L2.Fun.okD {P : Program} {w : World} {K : PySem.W.Frag} {mg : Str → Option Value} {base : Heap} {x qual : Str} {st : Stmt} {f : Addr} {fd : FuncData} {N ps : List Str} {k : Nat} {b : DS} (F : Fun K x qual st f fd) (S : FnScope N ps (defScope st))
    (hbody : ∀ (cdv : Value) (A : Around) (outer : List Env) (s : Shared) (H : Hp) (E : XK), RoomD k (A.deeper (envOfC qual (defScope st) s.heap.objs.size f cdv)) →
      QSs (cxOf (L2N.CX P w) P w K mg base N qual (defScope st) f cdv A outer s H E) (fun cls d _ H' => E cls d H') (defBody st) b) : FnD P w K mg base (k + 1) f fd ps (bodyF N.length b) := by
  obtain ⟨oc, od, kV, doc, pm, an, cdv, ct, osl, rfl, lk, hcd⟩ := F.ex
  exact fn_ofD lk hcd S (hbody cdv)

/-- .. where what was made within may be forgotten at the end -/
def SubM (ν μ : Mu) : Prop := ∀ a m, ν a = some m → μ a = some m
theorem SubM.refl (μ : Mu) : SubM μ μ := fun _ _ h => h
theorem Rep.less {K : PySem.W.Frag} {G H : Hp} {μ ν : Mu} (R : Rep K G H μ) (h : SubM ν μ) : Rep K G H ν := ⟨R.sub, fun a m e => R.mu a m (h a m e)⟩
def lessF (F : DF) : DF := fun ds μ x k => F ds μ (fun c fs μ' => ∃ ν, SubM ν μ' ∧ x c fs ν) (fun r μ' => ∃ ν, SubM ν μ' ∧ k r ν)
def bodyG (n : Nat) (b : DS) : DF := lessF (bodyF n b)
theorem FnD.less {P : Program} {w : World} {K : PySem.W.Frag} {mg : Str → Option Value} {base : Heap} {k : Nat} {f : Addr} {fd : FuncData} {ps : List Str} {F : DF} (h : FnD P w K mg base k f fd ps F) : FnD P w K mg base k f fd ps (lessF F) :=
  ⟨fun A outer s H args us vs Q E hr he hb hv ⟨G, μ, ds, x, kk, R, At0, el, q, f1, f2⟩ => h.run A outer s H args us vs Q E hr he hb hv ⟨G, μ, ds, _, _, R, At0, el, q, fun G' H' v r μ' S' R' A' ⟨ν, hs, q'⟩ => f1 G' H' v r ν S' (R'.less hs) A' q',
    fun G' H' c fs cls dd μ' S' R' X' ⟨ν, hs, q'⟩ => f2 G' H' c fs cls dd ν S' (R'.less hs) X' q'⟩⟩

section
variable {X : Cx} {W : WX} {a b e o tg : Expr} {es : List Expr} {da db : DE} {t : DA} {pos p : Pos} {st : Stmt} {rest : List Stmt} {d1 d2 : DS} {k : Nat} {f : Addr} {fd : FuncData} {ps : List Str} {F : DF} {x : Str}
theorem run_fnD {pins : List (Addr × Obj)} {σ : St} {H : Hp} {s : Shared} {Q : VK} {us : List Value} {vs : List V} (Fn : FnD X.prog X.w X.K X.mg X.base k f fd ps F) (hr : RoomD k X.A) (hb : Binds X.K fd ps []) (tk : L2N.Takes X W)
    (I : Inv X pins σ H s) (r : Vals vs us) (h : spD X.K X.mg ps.length F vs H Q (WE W σ)) : wpAny (model X.prog X.w) X.A (call (.ref f) us) (EP X pins σ Q) X.xe s := by
  have hl : us.length = ps.length := by rw [← r.length]; exact h.len
  have bd := hb s us I.kIn (by rw [List.append_nil]; exact hl)
  rw [List.append_nil] at bd
  refine wpAny_call (codeAny_mono (Fn.run X.A X.stack s H ⟨us, []⟩ us vs Q (WE W σ) hr I.env0 bd r h) fun res s' hq => ?_)
  cases res with
  | error ev => exact L2N.passAt tk σ pins H s ev s' I hq
  | ok fl =>
    cases fl with
    | ret u => exact I.after hq
    | next => exact False.elim hq
    | brk => exact False.elim hq
    | cont => exact False.elim hq
def dCall (F : DF) (t : DA) : DE := fun δ μ x k => t δ μ x fun ds μ1 => F ds μ1 (fun c fs μ' => x δ c fs μ') k
theorem q_call (Fn : FnD X.prog X.w X.K X.mg X.base k f fd ps F) (hr : RoomD k X.A) (hg : Gl X x) (hm : X.mg x = some (.ref f)) (hk : PySem.W.keepIn X.K (.ref f) = true) (hb : Binds X.K fd ps []) (tk : L2N.Takes X W) (ha : QA X W (e :: es) t) (hn : (e :: es).length = ps.length := by rfl)
    (hdb : (x == ("__debug__" : Str)) = false := by decide) (he : starEach (e :: es) X.env = (false, eval e X.env) :: starEach es X.env := by rfl) (hpl : (backTo pos (starEach es X.env)).any (·.1) = false := by rfl) :
    QE X W (.Call (.Name x p) (e :: es) [] pos) (dCall F t) := by
  refine ⟨fun pins s σ H Q I ⟨G, δ, μ, xx, kk, R, S, q, fv, fx⟩ => wpAny_Call_Name_kw (ld_glob I hg hm (PySem.W.callWith_K (h₀ := X.base) I.ok.mod.kin hk ?_ he hpl) hdb)⟩
  refine thn (ha.run pos pins s σ H (fun vs H1 => spD X.K X.mg ps.length F vs H1 Q (WE W σ)) I ⟨G, δ, μ, xx, _, R, S, q, fun G1 H1 vs ds μ1 S1 R1 A1 hn1 q1 => ⟨G1, μ1, ds, _, kk, R1, A1, hn1.trans hn, q1, fv.up S1, fun G2 H2 c fs cls dd μ2 S2 R2 X2 q2 =>
    fx G2 H2 σ δ c fs cls dd μ2 (S1.trans S2) R2 (S.up (S1.trans S2)) X2 q2⟩, fx⟩) fun us s1 ⟨vs, H1, I1, r, h⟩ => ⟨I1.kIn, run_fnD Fn hr hb tk I1 r h⟩
theorem q_call0 (Fn : FnD X.prog X.w X.K X.mg X.base k f fd [] F) (hr : RoomD k X.A) (hg : Gl X x) (hm : X.mg x = some (.ref f)) (hk : PySem.W.keepIn X.K (.ref f) = true) (hb : Binds X.K fd [] []) (tk : L2N.Takes X W) (hdb : (x == ("__debug__" : Str)) = false := by decide) :
    QE X W (.Call (.Name x p) [] [] pos) (dCall F dNil) := by
  refine ⟨fun pins s σ H Q I ⟨G, δ, μ, xx, kk, R, S, q, fv, fx⟩ => wpAny_Call_Name_kw (ld_glob I hg hm (PySem.W.callWith_K0 I.kIn hk (run_fnD (us := []) (vs := []) Fn hr hb tk I .nil ?_)) hdb)⟩
  exact ⟨G, μ, [], _, kk, R, .nil, rfl, q, fv, fun G2 H2 c fs cls dd μ2 S2 R2 X2 q2 => fx G2 H2 σ δ c fs cls dd μ2 S2 R2 (S.up S2) X2 q2⟩

/-! ### raising an own error whose __init__ keeps its arguments -/
def spI1 (C : Addr) (fn : Str) : Sp := fun vs H Q _ => ∃ (a : Addr) (v : V), vs = [.ref a, v] ∧ H a = some (exo a C none) ∧ ∀ dx, H dx = none → dx ≠ a → Q .non (upd (upd H dx (exd dx [(fn, v)])) a (exo a C (some dx)))
theorem init1 {P : Program} {w : World} {K : PySem.W.Frag} {mg : Str → Option Value} {base : Heap} {C f1 : Addr} {fd1 : FuncData} {qual fn : Str} {st : Stmt} {p1 p2 p3 p4 : Pos} (F1 : Fun K "__init__" qual st f1 fd1) (hst : defBody st = [.Assign [.Attribute (.Name "self" p1) fn p2] (.Name fn p3) p4])
    (S : FnScope ["self", fn] ["self", fn] (defScope st)) (T : OexC K C) (no : PySem.W.findIn K (.ref C) fn = some none) (hd : (fn == ("__debug__" : Str)) = false) (hcd : (fn == ("__classdict__" : Str)) = false)
    (hl1 : (defScope st).names.lookup ("self" : Str) = some .local) (hl2 : (defScope st).names.lookup fn = some .local) : FnOk P w K mg base CX0 1 f1 fd1 ["self", fn] (spI1 C fn) := by
  refine F1.ok S (fun vs H Q E h => ?_) (fun cdv A outer s H vs Q E hr h => ?_)
  · obtain ⟨a, v, rfl, _⟩ := h; rfl
  · rw [hst]
    obtain ⟨a, v, rfl, ha, kk⟩ := h
    refine ⟨_, pss_one (ps_ost (pe_var (i := 0) rfl (Or.inl hl1)) (pe_var (i := 1) rfl (Or.inl hl2) hd hcd)), ?_⟩
    exact ⟨_, rfl, _, rfl, a, C, rfl, T, no, .inl ⟨ha, fun dx n ne => kk dx n ne⟩⟩
theorem mk_endN {pins : List (Addr × Obj)} {σ : St} {H1 H2 : Hp} {Q : XK} {hp hp2 h2 : Heap} {g1 g2 : Array GenState} {d1 d2 : Drawn} {t1 t2 : Nat} {os1 os2 : OsState} {a C d : Addr} {fs : List (Str × V)} (T : Raises X (.ref C)) (I1 : Inv X pins σ H1 ⟨hp, g1, d1, t1, os1⟩)
    (ha : hp.objs.size ≤ a) (kp : ∀ b o, hp.get? b = some o → hp2.get? b = some o) (un : Un (frs X.stack) [] (upd H1 a (exo a C none)) H2 hp2 h2) (hok : HOk X.prog X.w H2 h2) (ho : os2 = os1) (hb : AllBare g2)
    (ea : H2 a = some (exo a C (some d))) (ed : H2 d = some (exd d fs)) (hd1 : H1 d = none) (q : Q (.ref C) (some d) (upd (del H2 a) d (.xd fs))) : L2N.MkP X pins σ Q (.ref a) ⟨h2, g2, d2, t2, os2⟩ := by
  obtain ⟨t0, G, J, kG, ge, hoe, na⟩ := mk_end0 (d2 := d2) (t2 := t2) I1 ha kp un hok ho hb ea ed hd1
  exact ⟨a, _, _, ⟨G, g2, d2, t2, os2⟩, _, .ref C, some d, rfl, J, kG, ge, hoe, ⟨rfl, rfl, fun vs e => by cases e; rfl⟩, rfl, rfl, na, rfl, hb, T, q⟩
theorem pmk_oexN {CX : CXT} {x : Str} {C fI : Addr} {k : Nat} {fd : FuncData} {ps : List Str} {sp : Sp} {ta : TA} (T : OexC X.K C) (iC : PySem.W.findIn X.K (.ref C) "__init__" = some (some (.ref fI))) (tI : PySem.W.typeIn X.K (.ref fI) = some (.type "function"))
    (F1 : FnOk X.prog X.w X.K X.mg X.base CX k fI fd ps sp) (hr : Room (k + 1) X.A) (hb : Binds X.K fd ps []) (hx : Passes CX X (fun _ _ _ => False)) (hg : Gl X x) (hm : X.mg x = some (.ref C)) (ha : PA X (e :: es) ta)
    (hdb : (x == ("__debug__" : Str)) = false := by decide) (he : starEach (e :: es) X.env = (false, eval e X.env) :: starEach es X.env := by rfl) (hpl : (backTo pos (starEach es X.env)).any (·.1) = false := by rfl) :
    L2N.PMk X (.Call (.Name x p) (e :: es) [] pos) (tMkO C sp [] ta) := by
  intro pins s σ H Q I h
  obtain ⟨nm, qn, N, bs, bm, sn, sub, ab, col, dd, k0, k1, k2, k3, k5, hC, hbm⟩ := T.cls
  refine wpAny_Call_Name_kw (ld_glob I hg hm (PySem.W.callWith_K (h₀ := X.base) I.ok.mod.kin T.kC (thn (ha.run pos pins s σ H _ I h) fun us s1 ⟨vs, H1, I1, r1, hz, q1⟩ => ⟨I1.kIn, ?_⟩) he hpl) hdb)
  show wpAny _ _ (call (.ref C) us) _ _ _
  obtain ⟨hp, g, dr, tk, os⟩ := s1
  have hn : H1 (hp.objs.size + 1) = none := I1.hok.fresh (Nat.le_succ _)
  have hq := q1 (hp.objs.size + 1) hn
  have kk : ∀ b o, hp.get? b = some o → ((hp.push (PySem.W.kdv_tup us)).push (PySem.HandSPX.excO C hp.objs.size)).get? b = some o := fun b o z => Heap.get?_push_of_some _ (Heap.get?_push_of_some _ z)
  have hget : ((hp.push (PySem.W.kdv_tup us)).push (PySem.HandSPX.excO C hp.objs.size)).get? (hp.objs.size + 1) = some (PySem.HandSPX.excO C hp.objs.size) := by heap_get
  have I2 : Inv X pins σ (upd H1 (hp.objs.size + 1) (exo (hp.objs.size + 1) C none)) ⟨(hp.push (PySem.W.kdv_tup us)).push (PySem.HandSPX.excO C hp.objs.size), g, dr, tk, os⟩ := I1.laid (t' := tk) (a := hp.objs.size + 1) (o := exo (hp.objs.size + 1) C none) (h' := (hp.push (PySem.W.kdv_tup us)).push (PySem.HandSPX.excO C hp.objs.size)) kk (Nat.le_succ _) (exo_ok hget)
  have r2 : Vals (V.ref (hp.objs.size + 1) :: (vs ++ [])) (Value.ref (hp.objs.size + 1) :: (us ++ [])) := .cons rfl (r1.append .nil)
  have hl : (Value.ref (hp.objs.size + 1) :: us ++ []).length = ps.length := by
    have z := r2.length
    rw [F1.len _ _ _ _ hq] at z
    exact z.symm
  have hus : us.length ≤ sizeLine := by
    rw [← Paired.length r1, sizeLine_eq]
    omega
  refine wpAny_call (PySem.HandSPX.call_own F.excBase_ValueError (fun Y => PySem.HandSPX.refsVE_contains Y bm hbm) (I1.kIn _ _ hC) (PySem.W.looks_findIn I1.kIn iC) (fun self => PySem.W.bind_fn I1.kIn self tI) hus
    (codeAny_mono (F1.run _ X.stack _ _ ⟨Value.ref (hp.objs.size + 1) :: us, []⟩ (Value.ref (hp.objs.size + 1) :: (us ++ [])) _ _ (fun _ _ _ => False) (hr.make C us []) (I2.env0.make C us []) (by simpa only [List.append_nil] using hb _ (Value.ref (hp.objs.size + 1) :: us) I2.kIn hl) r2 hq) fun r s' hq' => ?_))
  cases r with
  | error er => exact hx pins σ _ _ er s' I2 hq'
  | ok fl =>
    cases fl with
    | ret u =>
      obtain ⟨v, H2, os2, bare2, un2, hok2, rv, ev, d, fs, ea, ed, hd1, q2⟩ := hq'
      subst ev
      obtain ⟨h2, g2, d2, t2, os'⟩ := s'
      exact ⟨rv, mk_endN (raises_own T.exC T.tyC) I1 (Nat.le_succ _) kk un2 hok2 os2 bare2 ea ed hd1 q2⟩
    | next => exact False.elim hq'
    | brk => exact False.elim hq'
    | cont => exact False.elim hq'
/-- what the written part says of an own error with one field -/
structure Err1 (P : Program) (w : World) (K : PySem.W.Frag) (mg : Str → Option Value) (base : Heap) (x fn : Str) (C fI : Addr) (fd : FuncData) : Prop where
  T : OexC K C
  iC : PySem.W.findIn K (.ref C) "__init__" = some (some (.ref fI))
  tI : PySem.W.typeIn K (.ref fI) = some (.type "function")
  F1 : FnOk P w K mg base CX0 1 fI fd ["self", fn] (spI1 C fn)
  hb : Binds K fd ["self", fn] []
  hm : mg x = some (.ref C)
def dRaise1 (x fn : Str) (da : DE) : DS := fun E δ μ => da δ μ E.ex fun d μ1 => E.ex δ x ([fn], [d]) μ1
theorem exd_ne_lst {dx : Addr} {fs : List (Str × V)} {xs : List V} : exd dx fs ≠ .lst xs := fun z => by unfold exd at z; cases z
theorem qs_raise1 {C fI : Addr} {fn : Str} {p2 : Pos} (hc : X.calm = true) (Er : Err1 X.prog X.w X.K X.mg X.base x fn C fI fd) (hr : RoomD k X.A) (tk : L2N.Takes X W) (hg : Gl X x) (ha : QE X W e da) (hdb : (x == ("__debug__" : Str)) = false := by decide)
    (he : starEach (e :: []) X.env = (false, eval e X.env) :: starEach [] X.env := by rfl) (hpl : (backTo pos (starEach [] X.env)).any (·.1) = false := by rfl) : QS X W (.Raise (some (.Call (.Name x p) [e] [] pos)) none p2) (dRaise1 x fn da) :=
  imS (L2N.ps_raise hc tk (pmk_oexN Er.T Er.iC Er.tI Er.F1 (hr.room.mono (by decide)) Er.hb pass0 hg Er.hm (pa_cons ha pa_nil he) hdb he hpl)) fun T σ H ⟨G, δ, μ, E, R, S, q, f⟩ => ⟨G, δ, μ, E.ex, _, R, S, q, fun G1 H1 v d μ1 S1 R1 A1 q1 => by
    refine ⟨(by show 1 ≤ 1000; decide), fun a na => ⟨a, v, rfl, upd_same, fun dx ndx ne => ⟨rfl, dx, [(fn, v)], upd_same, ?_, ?_, ?_⟩⟩⟩
    · rw [upd_ne ne]; exact upd_same
    · rw [upd_ne ne] at ndx; exact ndx
    · have nd1 : H1 dx = none := by rw [upd_ne ne] at ndx; exact ndx
      -- the heap behind is H1 with the error's own dict
      have eH : upd (del (upd (upd (upd H1 a (exo a C none)) dx (exd dx [(fn, v)])) a (exo a C (some dx))) a) dx (.xd [(fn, v)]) = upd H1 dx (.xd [(fn, v)]) := by
        funext b
        by_cases h1 : b = dx
        · rw [h1, upd_same, upd_same]
        · rw [upd_ne h1, upd_ne h1]
          by_cases h2 : b = a
          · rw [h2, del_same]; exact na.symm
          · rw [del_ne h2, upd_ne h2, upd_ne h1, upd_ne h2]
      rw [eH]
      have gd := R1.sub.free nd1
      exact f.ex (upd G1 dx (.xd [(fn, v)])) _ σ δ x ([fn], [d]) _ _ μ1 (S1.trans (same_upd gd)) (R1.new nd1) (S.up (S1.trans (same_upd gd))) ⟨C, rfl, Er.hm, .inr ⟨dx, [(fn, v)], rfl, upd_same, rfl, .cons (A1.up (same_upd gd)) .nil⟩⟩ q1, f.ex⟩
end
end Once

namespace Once
open PySem PySem.Spec PyProof.Rows L2
section
variable {X : Cx} {W : WX} {a b e o tg : Expr} {es : List Expr} {da db : DE} {t : DA} {pos p : Pos} {st : Stmt} {rest : List Stmt} {d1 d2 : DS}

/-! ### try .. except x as n -/
def dTry (i : Nat) (db : DS) (sub : Str → Option Bool) (su : Str → Addr → Option Addr → DS) : DS := fun E δ μ =>
  db { E with ex := fun δ1 c fs μ1 => (sub c = some true ∧ ∀ a dd, su c a dd { nx := fun δ2 μ2 => E.nx (δ2.set i none) μ2, rt := E.rt, bk := fun δ2 μ2 => E.bk (δ2.set i none) μ2, ct := fun δ2 μ2 => E.ct (δ2.set i none) μ2, ex := noX } (δ1.set i (some (.exc a c dd fs.1 fs.2))) μ1) ∨
    (sub c = some false ∧ E.ex δ1 c fs μ1) } δ μ
theorem exc_at {K : PySem.W.Frag} {mg : Str → Option Value} {G : Hp} {c : Str} {fs : Fs} {cls : Value} {dd : Option Addr} (h : XAt K mg G c fs cls dd) (a : Addr) : At K G (.ref a) (.exc a c dd fs.1 fs.2) := by
  obtain ⟨C, _, _, ⟨rfl, rfl⟩ | ⟨d, fv, rfl, h1, h2, h3⟩⟩ := h
  · exact .exc0 a c
  · exact .exc h1 h2 h3
theorem qs_try {x n : Str} {c : Value} {i : Nat} {body suite : List Stmt} {b₀ : Stmt} {np pos' : Pos} {db : DS} {sub : Str → Option Bool} {su : Str → Addr → Option Addr → DS}
    (hs : X.stack = X.env :: X.outer) (hf : X.env.frame = some X.env.locals) (hN : X.N.Nodup) (hi : X.N[i]? = some n) (hln : X.env.kindOf n = some .local) (hc : Names X x c) (tk : L2N.Takes X W)
    (hsub : ∀ (cn : Str) (C : Addr) (b : Bool), X.mg cn = some (.ref C) → sub cn = some b → PySem.W.exmOne X.K (.ref C) c = some b)
    (hb : ∀ (Wt : WX) (pn : List (Addr × Obj)) (xe : Value → Shared → Prop), L2N.Takes (X.tr pn xe) Wt → PassesOwn (model X.prog X.w) X.A X.env xe → QSs (X.tr pn xe) Wt body db)
    (hsu : ∀ (a : Addr) (oe : Obj) (C : Addr) (cn : Str) (dd : Option Addr) (pn : List (Addr × Obj)), X.mg cn = some (.ref C) → sub cn = some true → L2N.Zn (.ref C) dd oe → (∃ vs, oe.data = .fields vs) → QSs (X.suite a ((a, oe) :: pn)) wF (b₀ :: suite) (su cn a dd)) :
    QS X W (.Try body [.ExceptHandler (some (.Name x np)) (some n) (b₀ :: suite) pos'] [] [] pos) (dTry i db sub su) := by
  refine imS (L2N.ps_try_as (tb := fun Wt => liftS X.K X.mg Wt db)
    (ts := fun a cls dd => fun T σ H => ∃ (cn : Str) (C : Addr) (G : Hp) (δ : Ds) (μ : Mu) (E : DEnds), cls = .ref C ∧ X.mg cn = some (.ref C) ∧ sub cn = some true ∧ Rep X.K G H μ ∧ SlotsAt X.K G σ δ ∧ su cn a dd E δ μ ∧ FinS X.K X.mg wF G E T)
    hs hf hN hi hln hc tk hb fun a oe cls dd pn hz hv => ⟨fun pins s σ H T I ⟨cn, C, G, δ, μ, E, ec, hm, hsb, R, S, q, f⟩ => ?_⟩) fun T σ H ⟨G, δ, μ, E, R, S, q, f⟩ => ?_
  · subst ec
    exact (hsu a oe C cn dd pn hm hsb hz hv).run pins s σ H T I ⟨G, δ, μ, E, R, S, q, f⟩
  · refine ⟨G, δ, μ, _, R, S, q, ⟨f.nx, f.rt, f.bk, f.ct, fun G1 H1 σ1 δ1 cn fs cls dd μ1 S1 R1 Z1 x1 q1 => ?_⟩⟩
    obtain ⟨C, ec, hm, hx⟩ := id x1
    subst ec
    rcases q1 with ⟨h1, q1⟩ | ⟨h1, q1⟩
    · refine ⟨true, hsub cn C true hm h1, fun _ a _ => ?_, fun z => Bool.noConfusion z⟩
      refine ⟨cn, C, G1, _, μ1, _, rfl, hm, h1, R1, Z1.set (exc_at x1 a), q1 a dd, ⟨fun G2 H2 σ2 δ2 μ2 S2 R2 Z2 q2 => f.nx G2 H2 _ _ μ2 (S1.trans S2) R2 Z2.setN q2, f.rt.up S1, fun G2 H2 σ2 δ2 μ2 S2 R2 Z2 q2 => f.bk G2 H2 _ _ μ2 (S1.trans S2) R2 Z2.setN q2, fun G2 H2 σ2 δ2 μ2 S2 R2 Z2 q2 => f.ct G2 H2 _ _ μ2 (S1.trans S2) R2 Z2.setN q2, fin_noX⟩⟩
    · exact ⟨false, hsub cn C false hm h1, fun z => Bool.noConfusion z, fun _ => f.ex G1 H1 σ1 δ1 cn fs _ dd μ1 S1 R1 Z1 x1 q1⟩
/-! ### in the suite -/
def fldOf (f : Str) : List Str → List D → Option D
  | n :: ns, v :: vs => if f = n then some v else fldOf f ns vs
  | _, _ => none
theorem fld_at {K : PySem.W.Frag} {G : Hp} {f : Str} {v : D} : ∀ {fv : List (Str × V)} {ds : List D}, AtAll K G (fv.map (·.2)) ds → fldOf f (fv.map (·.1)) ds = some v → ∃ u, fv.lookup f = some u ∧ At K G u v
  | [], _, A, e => by cases A; cases e
  | (n, u) :: r, ds, A, e => by
    rw [List.map_cons] at A
    cases A with
    | cons a1 a2 =>
      rw [List.map_cons] at e
      unfold fldOf at e
      by_cases h : f = n
      · rw [if_pos h] at e
        cases e
        subst h
        exact ⟨u, by simp [List.lookup], a1⟩
      · rw [if_neg h] at e
        obtain ⟨w, e1, e2⟩ := fld_at a2 e
        have hb : (f == n) = false := by simpa using h
        exact ⟨w, by simp [List.lookup, hb, e1], e2⟩
def dXf (a : Addr) (cn : Str) (dd : Option Addr) (f : Str) (de : DE) : DE := fun δ μ x k => de δ μ x fun d μ1 => ∃ ns vs v, d = .exc a cn dd ns vs ∧ fldOf f ns vs = some v ∧ k v μ1
theorem q_xf {a C : Addr} {oe : Obj} {cn f : Str} {dd : Option Addr} {pn : List (Addr × Obj)} {e : Expr} {de : DE} (T : XfC X.K C) (hno : PySem.W.findIn X.K (.ref C) f = some none) (hz : L2N.Zn (.ref C) dd oe) (hf : ∃ vs, oe.data = .fields vs)
    (he : QE (X.suite a ((a, oe) :: pn)) W e de) (hb : attributeBase e f X.env (eval e X.env) = eval e X.env := by rfl) : QE (X.suite a ((a, oe) :: pn)) W (.Attribute e f pos) (dXf a cn dd f de) :=
  imE (pe_xf T hno hz.zc hf he hb) fun σ H Q ⟨G, δ, μ, x, k, R, S, q, f, fx⟩ => ⟨G, δ, μ, x, _, R, S, q, fun G1 H1 v d μ1 S1 R1 A1 ⟨ns, vs, w, e1, e2, q1⟩ => by
    subst e1
    cases A1 with
    | exc0 => cases e2
    | exc h1 h2 h3 =>
      subst h2
      obtain ⟨u, e3, Au⟩ := fld_at h3 e2
      exact ⟨rfl, rfl, _, _, u, rfl, R1.sub _ _ h1, e3, f G1 H1 u w μ1 S1 R1 Au q1⟩, fx⟩
/-- isinstance(e, C2), e the error that is held -/
def dIsE (a : Addr) (cn : Str) (dd : Option Addr) (b : Bool) (de : DE) : DE := fun δ μ x k => de δ μ x fun d μ1 => ∃ ns vs, d = .exc a cn dd ns vs ∧ k (.bl b) μ1
theorem isE_any {a C C2 : Addr} {oe : Obj} {dd : Option Addr} {pn : List (Addr × Obj)} {bb : Bool} (T : ExcC X.K C) (hz : L2N.Zn (.ref C) dd oe) (hf : ∃ vs, oe.data = .fields vs) (hk : PySem.W.kitOne X.K (.ref C) (.ref C2) = some bb) :
    CallR (X.suite a ((a, oe) :: pn)) (.builtin "isinstance") (fun xs H Q => xs = [.ref a, .ref C2] ∧ (dd = none ∨ ∃ d fv, dd = some d ∧ H d = some (.xd fv)) ∧ Q (.bl bb) H) := by
  intro pins s σ H xs us Q I r ⟨ex, hd, q⟩
  subst ex
  obtain ⟨u1, u2, rfl, r1, r2⟩ := vals2 r
  obtain rfl : u1 = Value.ref a := r1
  obtain rfl : u2 = Value.ref C2 := r2
  obtain ⟨hget, _⟩ := I.pin (a, oe) (List.mem_append.mpr (.inl List.mem_cons_self))
  obtain ⟨vs, hv⟩ := hf
  have fin : ∀ tk, EP (X.suite a ((a, oe) :: pn)) pins σ Q (.bool bb) { s with toks := tk } := fun tk => ⟨.bl bb, H, I.tok tk, rfl, q⟩
  have hcl : (PySem.W.clsIn X.K C).isSome = true := by
    have := T.hd
    unfold PySem.W.hasDictIn at this
    cases e : PySem.W.clsIn X.K C with
    | none => rw [e] at this; simp at this
    | some z => rfl
  obtain ⟨oc, od, oda, osl⟩ := oe
  obtain ⟨h1, h2, _⟩ := hz
  dsimp only at h1 h2 hv
  subst h1 h2 hv
  rcases hd with h | ⟨d, fv, h, hh⟩
  · subst h
    have J : PySem.W.InstAt s.heap a ⟨.ref C, none, .fields vs, osl⟩ C none := ⟨hget, rfl, rfl, trivial⟩
    exact PySem.W.kia_one (PySem.W.kitx_exc hcl T.hg T.hk T.hs T.ha T.hn T.ht T.hm) I.kIn J hk (fun z => nomatch z) fin
  · subst h
    obtain ⟨mA, hns, _⟩ := (show ObjOk X.prog X.w H s.heap d (.xd fv) from I.hok d _ hh)
    obtain ⟨od2, ho, hl⟩ := lookIn_ns hns
    have J : PySem.W.InstAt s.heap a ⟨.ref C, some d, .fields vs, osl⟩ C (some od2) := ⟨hget, rfl, rfl, ho⟩
    exact PySem.W.kia_one (PySem.W.kitx_exc hcl T.hg T.hk T.hs T.ha T.hn T.ht T.hm) I.kIn J hk (fun z => nomatch z) fin
theorem q_isE {a C C2 : Addr} {oe : Obj} {cn x2 : Str} {dd : Option Addr} {pn : List (Addr × Obj)} {e : Expr} {de : DE} {bb : Bool} {p1 p2 : Pos} (T : ExcC X.K C) (hz : L2N.Zn (.ref C) dd oe) (hf : ∃ vs, oe.data = .fields vs) (hk : PySem.W.kitOne X.K (.ref C) (.ref C2) = some bb)
    (hg : Gl X "isinstance") (hm : X.mg "isinstance" = none) (hg2 : Gl X x2) (hm2 : X.mg x2 = some (.ref C2)) (he : QE (X.suite a ((a, oe) :: pn)) W e de) (hdb : (x2 == ("__debug__" : Str)) = false := by decide)
    (hs1 : starEach [e, .Name x2 p2] X.env = (false, eval e X.env) :: starEach [.Name x2 p2] X.env := by rfl) (hs2 : starEach [.Name x2 p2] X.env = (false, eval (.Name x2 p2) X.env) :: starEach [] X.env := by rfl) (hpl : (backTo pos (starEach [.Name x2 p2] X.env)).any (·.1) = false := by rfl) :
    QE (X.suite a ((a, oe) :: pn)) W (.Call (.Name "isinstance" p1) [e, .Name x2 p2] [] pos) (dIsE a cn dd bb de) :=
  imE (pe_callB (X := X.suite a ((a, oe) :: pn)) (isE_any T hz hf hk) hg hm (by decide +kernel) (pa_cons he (pa_cons (pe_glob (v := .ref C2) hg2 hm2 rfl hdb) pa_nil hs2) hs1) (by decide) (by decide) hs1 hpl) fun σ H Q ⟨G, δ, μ, x, k, R, S, q, f, fx⟩ => ⟨G, δ, μ, x, _, R, S, q, fun G1 H1 v d μ1 S1 R1 A1 ⟨ns, vs, e1, q1⟩ => by
    subst e1
    have fin := f G1 H1 _ _ μ1 S1 R1 (.bl bb) q1
    cases A1 with
    | exc0 => exact ⟨rfl, .inl rfl, fin⟩
    | exc h1 h2 h3 => exact ⟨rfl, .inr ⟨_, _, rfl, R1.sub _ _ h1⟩, fin⟩, fx⟩
/-! ### a def called while an error is handled -/
theorem hot_suite {a : Addr} {oe : Obj} {cls : Value} {dd : Option Addr} {pn : List (Addr × Obj)} (hz : L2N.Zn cls dd oe) (hf : ∃ vs, oe.data = .fields vs) : L2H.HotC (X.suite a ((a, oe) :: pn)) := by
  obtain ⟨vs, hv⟩ := hf
  exact ⟨(a, oe), ⟨rfl, vs, hv, hz.2.2 vs hv⟩, List.mem_cons_self⟩
theorem passH {X : Cx} (σ : St) (E : XK) : PassesAt CX0 X σ E := fun _ _ _ _ _ _ h => h.elim
abbrev FnHD (P : Program) (w : World) (K : PySem.W.Frag) (mg : Str → Option Value) (base : Heap) (k : Nat) (f : Addr) (fd : FuncData) (ps : List Str) (F : DF) : Prop := L2H.FnH P w K mg base CX0 k f fd ps (spD K mg ps.length F)
theorem fn_ofHD {P : Program} {w : World} {K : PySem.W.Frag} {mg : Str → Option Value} {base : Heap} {k : Nat} {f : Addr} {fd : FuncData} {x qual : Str} {st : Stmt} {N ps : List Str} {b : DS} (F : Fun K x qual st f fd) (S : FnScope N ps (defScope st))
    (hbody : ∀ (cdv : Value) (A : Around) (outer : List Env) (s : Shared) (H : Hp) (E : XK) (p : Addr × Obj), L2H.Hot1 A p →
      QSs (L2H.cxH CX0 P w K mg base N qual (defScope st) f cdv A outer s H E p) wF (defBody st) b) (hx : ∀ (ds : List D) (μ : Mu) (x : DXF) (k : DK), bodyF N.length b ds μ x k → bodyF N.length b ds μ (fun _ _ _ => False) k) : FnHD P w K mg base (k + 1) f fd ps (bodyF N.length b) := by
  obtain ⟨oc, od, kV, doc, pm, an, cdv, ct, osl, rfl, lk, hcd⟩ := F.ex
  refine L2H.fn_ofH lk hcd S (fun vs H Q E h => h.len) fun A outer s H vs Q E p hot hr hsp => ⟨_, hbody cdv A outer s H E p hot, ?_⟩
  obtain ⟨G, μ, ds, xf, kf, R, At0, el, q, f1, f2⟩ := hsp
  exact ⟨G, startD N.length ds, μ, _, R, start_at At0, hx _ _ _ _ q, ⟨fun G' H' _ _ μ' S' R' _ q' => f1 G' H' .non .non μ' S' R' .non q', f1, fun _ _ _ _ _ _ _ _ z => z.elim, fun _ _ _ _ _ _ _ _ z => z.elim, fun _ _ _ _ _ _ _ _ _ _ _ _ _ z => z.elim⟩⟩
theorem q_callH {x : Str} {k : Nat} {f : Addr} {fd : FuncData} {ps : List Str} {F : DF} (Fn : FnHD X.prog X.w X.K X.mg X.base k f fd ps F) (hr : L2H.RoomH k X.A) (hc : L2H.HotC X) (hg : Gl X x) (hm : X.mg x = some (.ref f)) (hk : PySem.W.keepIn X.K (.ref f) = true) (hb : Binds X.K fd ps []) (ha : QA X wF (e :: es) t)
    (hn : (e :: es).length = ps.length := by rfl) (hdb : (x == ("__debug__" : Str)) = false := by decide) (he : starEach (e :: es) X.env = (false, eval e X.env) :: starEach es X.env := by rfl) (hpl : (backTo pos (starEach es X.env)).any (·.1) = false := by rfl) :
    QE X wF (.Call (.Name x p) (e :: es) [] pos) (dCall F t) :=
  imE (L2H.pe_callH (E := fun _ _ _ _ => False) Fn hr hc hg hm hk hb (fun σ => passH σ _) ha hdb he hpl) fun σ H Q ⟨G, δ, μ, xx, kk, R, S, q, fv, fx⟩ => ⟨G, δ, μ, xx, _, R, S, q, fun G1 H1 vs ds μ1 S1 R1 A1 hn1 q1 =>
    ⟨G1, μ1, ds, _, kk, R1, A1, hn1.trans hn, q1, fv.up S1, fun G2 H2 c fs cls dd μ2 S2 R2 X2 q2 => fx G2 H2 σ δ c fs cls dd μ2 (S1.trans S2) R2 (S.up (S1.trans S2)) X2 q2⟩, fx⟩
theorem roomH_suite {A : Around} {k : Nat} {v : Option Value} (hr : RoomD k A) : L2H.RoomH 1 (A.mark v) := ⟨by have := hr.dp; show A.depth + 3 * 1 + 5 < _; omega, by have := hr.un; show A.units + 16 * 1 + 200 < _; omega⟩
theorem un0_suite {a : Addr} {pn : List (Addr × Obj)} (h : Un0 X.A) : Un0 (X.suite a pn).A := h
theorem takesF {X : Cx} : L2N.Takes X wF := fun _ _ x => by
  obtain ⟨_, _, _, _, _, _, _, _, _, _, _, _, _, _, _, _, z⟩ := x
  exact z.elim
/-- a list that changes no more from here on -/
def dFrz (da : DE) : DE := fun δ μ x k => da δ μ x fun d μ1 => ∃ a xs, d = .mref a ∧ μ1 a = some (.lst xs) ∧ k (.lst xs) (cut μ1 a)
theorem q_frz (h : QE X W e da) : QE X W e (dFrz da) := imE h fun σ H Q ⟨G, δ, μ, x, k, R, S, q, f, fx⟩ => ⟨G, δ, μ, x, _, R, S, q, fun G1 H1 v d μ1 S1 R1 A1 ⟨a, xs, e1, e2, q1⟩ => by
  subst e1
  cases A1
  obtain ⟨vs, h2, S2, R2, A2⟩ := R1.freeze e2
  exact f _ H1 _ _ _ (S1.trans S2) R2 A2 q1, fx⟩
def dNeg (da : DE) : DE := fun δ μ x k => da δ μ x fun d μ1 => ∃ i, d = .int i ∧ k (.int (-i)) μ1
theorem q_neg (h : QE X W e da) : QE X W (.UnaryOp .USub e pos) (dNeg da) := imE (pe_un un_neg h) fun σ H Q ⟨G, δ, μ, x, k, R, S, q, f, fx⟩ => ⟨G, δ, μ, x, _, R, S, q, fun G1 H1 v d μ1 S1 R1 A1 ⟨i, e1, q1⟩ => by
  subst e1
  cases A1
  exact ⟨i, rfl, f G1 H1 _ _ μ1 S1 R1 (.int _) q1⟩, fx⟩
theorem qt_isN {j : Nat} {p : Pos} (ha : QE X W a da) : QT X W (.Compare a [.Is] [.Constant .none j p] pos) (dB (dIsN da)) :=
  imT (pt_cmp (pc_isN ha) (by rfl)) fun σ H Q ⟨G, δ, μ, x, k, R, S, q, f, fx⟩ => ⟨G, δ, μ, x, _, R, S, q, fun G1 H1 v d μ1 S1 R1 A1 ⟨b, e1, q1⟩ => by
    cases e1
    exact ⟨_, rfl, by rw [at_non A1]; exact f G1 H1 _ μ1 S1 R1 q1⟩, fx⟩
theorem qt_notN {j : Nat} {p : Pos} (ha : QE X W a da) : QT X W (.Compare a [.IsNot] [.Constant .none j p] pos) (dB (dNotN da)) :=
  imT (pt_cmp (pc_notN ha) (by rfl)) fun σ H Q ⟨G, δ, μ, x, k, R, S, q, f, fx⟩ => ⟨G, δ, μ, x, _, R, S, q, fun G1 H1 v d μ1 S1 R1 A1 ⟨b, e1, q1⟩ => by
    cases e1
    exact ⟨_, rfl, by rw [at_non A1]; exact f G1 H1 _ μ1 S1 R1 q1⟩, fx⟩
end
end Once

namespace Once
open PySem PySem.Spec PyProof.Rows L2
/-! ### a law's end -/
/-- what a law asks of its script, over data -/
def LawD (n : Nat) (F : DF) : Prop := ∀ ns : List Int, ns.length ≤ n → F [.scr ns] (fun _ => none) (fun _ _ _ => False) (fun d _ => d = .bl true)
theorem room_caller {k : Nat} (h : k ≤ 600) : RoomD k callerA := by
  refine ⟨rfl, rfl, ?_, ?_⟩
  · show 1 + claimMargin + k + 30 < recursionLimit
    have h1 : claimMargin = 300 := rfl
    have h2 : recursionLimit = 1000 := rfl
    omega
  · show 4 + 8 * k + 900 < cLine
    have h2 : cLine = 9900 := rfl
    omega
theorem lawD {P : Program} {w : World} {K : PySem.W.Frag} {mg mb : Str → Option Value} {k n : Nat} {fa a : Addr} {fd : FuncData} {x : Str} {F : DF} {s₁ : Shared} {vs : List Value} {ns : List Int}
    (KX : K.In s₁.heap) (hns : s₁.heap.Ns mainGlobals mg) (hb : s₁.heap.Ns builtinsNs mb) (hbb : ∀ x : Str, x ≠ "__name__" → mb x = bootBuiltins x) (hlim : s₁.heap.NoLimit) (hg : s₁.gens = #[])
    (ha : s₁.heap.get? a = some { cls := .type "list", data := .seq vs.toArray }) (hi : IntsAre vs ns) (hl : ns.length ≤ n) (hn : n ≤ 1000) (hk : k ≤ 600)
    (Fn : ∀ base : Heap, K.In base → base.Ns mainGlobals mg → FnD P w K mg base k fa fd [x] F) (hbind : ∀ (s : Shared) (u : Value), BindsTo s fd ⟨[u], []⟩ [(x, u)]) (hF : LawD n F) :
    codeAny (model P w) callerA (.call (.ref fa) ⟨[.ref a], []⟩) (fun r s' => r = .ok (.ret (.bool true)) ∧ OldK s₁.heap s'.heap ∧ s'.os = s₁.os ∧ AllBare s'.gens) s₁ := by
  have rv := vals_ints hi
  have lenV := hi.length
  have hline : ns.length ≤ sizeLine := Nat.le_of_lt (small1000 (Nat.le_trans hl hn))
  -- over any abstract heap that tracks the script alone
  suffices core : ∀ H : Hp, Only H → SqL K H a (ns.map V.int) → HOk P w H s₁.heap → (∀ c, H c ≠ none → c = a) → (H a ≠ none → K.lookup a = none) →
      codeAny (model P w) callerA (.call (.ref fa) ⟨[.ref a], []⟩) (fun r s' => r = .ok (.ret (.bool true)) ∧ OldK s₁.heap s'.heap ∧ s'.os = s₁.os ∧ AllBare s'.gens) s₁ by
    cases hka : K.lookup a with
    | some ob =>
      have eo : ob = { cls := .type "list", data := .seq vs.toArray } := Option.some.inj ((KX a ob hka).symm.trans ha)
      subst eo
      exact core (fun _ => none) (fun _ => .inl rfl) (.inr ⟨_, vs.toArray, _, hka, rfl, rfl, rfl, by rw [List.size_toArray, lenV]; exact hline, by simpa using rv⟩) (fun _ _ z => by cases z) (fun _ z => absurd rfl z) fun z => absurd rfl z
    | none =>
      have at_a : ∀ {c : Addr} {u : HO}, (if c = a then some (HO.frz { cls := .type "list", data := .seq vs.toArray } (.lst (ns.map V.int))) else none) = some u → c = a ∧ u = .frz { cls := .type "list", data := .seq vs.toArray } (.lst (ns.map V.int)) := fun {c u} z => by
        by_cases hc : c = a
        · rw [if_pos hc] at z; exact ⟨hc, (Option.some.inj z).symm⟩
        · rw [if_neg hc] at z; cases z
      refine core (fun c => if c = a then some (.frz { cls := .type "list", data := .seq vs.toArray } (.lst (ns.map V.int))) else none) (fun c => ?_) (.inl (.inr ⟨_, if_pos rfl⟩)) (fun c u z => ?_) (fun c z => ?_) fun _ => hka
      · by_cases hc : c = a
        · exact .inr ⟨_, _, if_pos hc⟩
        · exact .inl (if_neg hc)
      · obtain ⟨e1, e2⟩ := at_a z
        subst e1 e2
        exact ⟨ha, by rw [List.length_map]; exact hline, vs, _, rv, ha⟩
      · by_cases hc : c = a
        · exact hc
        · exact absurd (if_neg hc) z
  intro H hO hS hok hA hK
  have onlyA : ∀ {c : Addr} {o : Obj} {u : HO}, s₁.heap.get? c = some o → H c = some u → o = { cls := .type "list", data := .seq vs.toArray } := fun {c o u} e q => by
    have ec := hA c (by rw [q]; simp)
    subst ec
    exact Option.some.inj (e.symm.trans ha)
  have dicts : ∀ {c : Addr} {o : Obj} {es : Array DictEntry} {ep : Nat}, s₁.heap.get? c = some o → o.data = .dict es ep → H c = none := fun {c o es ep} e d => by
    cases q : H c with
    | none => rfl
    | some u => rw [onlyA e q] at d; cases d
  have nsK : ∀ {c : Addr} {m : Str → Option Value}, s₁.heap.Ns c m → (hidT s₁.heap H).Ns c m := fun ⟨o, es, ep, e, d, r⟩ => ⟨o, es, ep, hidT_get e (dicts e d), d, r⟩
  have hKb : K.In (hidT s₁.heap H) := fun c o e => hidT_get (KX c o e) (by
    cases q : H c with
    | none => rfl
    | some u =>
      have ec := hA c (by rw [q]; simp)
      subst ec
      rw [hK (by rw [q]; simp)] at e
      cases e)
  have hM : Mod K mg (hidT s₁.heap H) := ⟨hKb, nsK hns, ⟨mb, nsK hb, hbb⟩, by obtain ⟨mc, h1, h2⟩ := hlim; exact ⟨mc, nsK h1, h2⟩⟩
  have e0 : Env0 P w K mg (hidT s₁.heap H) callerA [] s₁ H := ⟨rfl, hM, fun _ _ e => of_hidT e, Nat.le_of_eq (hidT_size _ _), trivial, fun c hc => absurd (show c ∈ ([] : List Addr) from hc) (by simp), hok, .of_eq hg⟩
  have hsp : spD K mg 1 F [.ref a] H (fun v _ => v = .bl true) (fun _ _ _ => False) :=
    ⟨H, fun _ => none, [.scr ns], fun _ _ _ => False, fun d _ => d = .bl true, ⟨Same.refl _, fun _ _ z => by cases z⟩, .cons (.scr hS) .nil, rfl, hF ns hl, fun G' H' v r μ' _ _ A q => by subst q; cases A; rfl, fun _ _ _ _ _ _ _ _ _ _ z => z⟩
  refine codeAny_mono ((Fn _ hKb (nsK hns)).run callerA [] s₁ H ⟨[.ref a], []⟩ [.ref a] [.ref a] _ _ (room_caller hk) e0 (hbind s₁ (.ref a)) (.cons rfl .nil) hsp) fun r s' h => ?_
  cases r with
  | error e => obtain ⟨_, _, _, _, _, _, _, _, _, _, _, _, z⟩ := h; exact z.elim
  | ok fl =>
    cases fl with
    | next => exact False.elim h
    | brk => exact False.elim h
    | cont => exact False.elim h
    | ret u =>
      obtain ⟨v, H', os, bare, un, hok', r', q⟩ := h
      obtain rfl : v = V.bl true := q
      obtain rfl : u = Value.bool true := r'
      refine ⟨rfl, OldK.of_keep fun c o e => ?_, os, bare⟩
      cases q : H c with
      | none => exact un.keep c o e q (by intro z; exact absurd (show c ∈ ([] : List Addr) from z) (by simp)) (by simp)
      | some u =>
        rcases hO c with z | ⟨ob, xs, z⟩
        · rw [q] at z; cases z
        · have e1 := (show ObjOk P w H s₁.heap c (.frz ob (.lst xs)) from hok c _ z).1
          have e2 := (show ObjOk P w H' s'.heap c (.frz ob (.lst xs)) from hok' c _ (un.frzs c ob _ z)).1
          have e3 : o = ob := Option.some.inj (e.symm.trans e1)
          rw [e3]
          exact e2
theorem walkD {l : PySem.W.OpenLaw} {n k : Nat} {q : Program} {loose : List Str} {XP : (Str → Option Value) → Heap → Prop} {YP : World → Heap → Prop} {d : DefRec} {K : Params → PySem.W.Frag} {F : DF} {x : Str}
    (hn : l.most = some n) (hn2 : n ≤ 1000) (hk : k ≤ 600) (hdf : d.params.defaults = [])
    (hY : ∀ (w : World) (h : Heap), YP w h → (K w.params).In h) (hF : LawD n F)
    (Fn : ∀ (w : World) (mg : Str → Option Value) (fa : Addr) (h : Heap), (K w.params).In h → h.Ns mainGlobals mg → mg d.name = some (.ref fa) →
      ∃ fd : FuncData, (∀ (s : Shared) (u : Value), BindsTo s fd ⟨[u], []⟩ [(x, u)]) ∧ ∀ base : Heap, (K w.params).In base → base.Ns mainGlobals mg → FnD l.prog w (K w.params) mg base k fa fd [x] F) :
    PySem.W.WalkO q loose XP YP l.row.toRowW d [] (fun f vs => PySem.call f vs) := by
  refine Att.attach_call hn hdf fun w s₀ s₁ mg mb fa o pm cd doc a vs ns G Y ho hd hcd hmg hobj hints hlen hg => ?_
  have KX := hY w _ Y
  obtain ⟨fd, hb, hFn⟩ := Fn w mg fa _ KX G.T.g hmg
  exact lawD KX G.T.g G.T.b G.T.builtins G.T.nolimit hg hobj hints hlen hn2 hk hFn hb hF
end Once

namespace Once
open PySem PySem.Spec PyProof.Rows L2
/-! ### the operators on data, case by case -/
section
variable {μ : Mu} {k : DK} {i j : Int} {a b : Str} {xs ys : List D} {d e : D}
theorem gAdd_ii : gAdd (.int i) (.int j) μ k = k (.int (i + j)) μ := rfl
theorem gAdd_ss : gAdd (.str a) (.str b) μ k = (a.length + b.length ≤ sizeLine ∧ k (.str (a ++ b)) μ) := rfl
theorem gAdd_ll : gAdd (.lst xs) (.lst ys) μ k = (xs.length + ys.length ≤ sizeLine ∧ k (.lst (xs ++ ys)) μ) := by
  show (isScr (.lst xs) = false ∧ isScr (.lst ys) = false ∧ ∃ xs' ys', seqOf μ (.lst xs) = some xs' ∧ seqOf μ (.lst ys) = some ys' ∧ xs'.length + ys'.length ≤ sizeLine ∧ k (.lst (xs' ++ ys')) μ) = _
  simp [isScr, seqOf]
theorem gSub_ii : gSub (.int i) (.int j) μ k = k (.int (i - j)) μ := rfl
theorem gMul_ii : gMul (.int i) (.int j) μ k = (CMul i j ∧ k (.int (i * j)) μ) := rfl
theorem gDiv_ii : gDiv (.int i) (.int j) μ k = (CDiv i j ∧ k (.int (i / j)) μ) := rfl
theorem gMod_ii : gMod (.int i) (.int j) μ k = (0 < j ∧ k (.int (i % j)) μ) := rfl
theorem gPow_ii : gPow (.int i) (.int j) μ k = (CPow i j ∧ k (.int (i ^ j.toNat)) μ) := rfl
theorem gInt0_ii {g : Int → Int → D} : gInt0 g (.int i) (.int j) μ k = k (g i j) μ := rfl
theorem gLt_ii : gLt (.int i) (.int j) μ k = k (.bl (decide (i < j))) μ := rfl
theorem gLe_ii : gLe (.int i) (.int j) μ k = k (.bl (decide (i ≤ j))) μ := rfl
theorem gGt_ii : gGt (.int i) (.int j) μ k = k (.bl (decide (j < i))) μ := rfl
theorem gGe_ii : gGe (.int i) (.int j) μ k = k (.bl (decide (j ≤ i))) μ := rfl
theorem eqD_ii : eqD (.int i) (.int j) = (i == j) := by simp only [eqD, toPy, PyData.eqv]
theorem eqD_ss : eqD (.str a) (.str b) = (a == b) := by simp only [eqD, toPy, PyData.eqv]
theorem eqD_bb {p q : Bool} : eqD (.bl p) (.bl q) = (p == q) := by simp only [eqD, toPy, PyData.eqv]
theorem gEq_ii : gEq (.int i) (.int j) μ k = k (.bl (i == j)) μ := by simp [gEq, okD, deepD, eqD_ii]
theorem gEq_ss : gEq (.str a) (.str b) μ k = k (.bl (a == b)) μ := by simp [gEq, okD, deepD, eqD_ss]
theorem gEq_bb {p q : Bool} : gEq (.bl p) (.bl q) μ k = k (.bl (p == q)) μ := by simp [gEq, okD, deepD, eqD_bb]
theorem gNe_ii : gNe (.int i) (.int j) μ k = k (.bl (!(i == j))) μ := by simp [gNe, okD, deepD, eqD_ii]
theorem gNe_ss : gNe (.str a) (.str b) μ k = k (.bl (!(a == b))) μ := by simp [gNe, okD, deepD, eqD_ss]
theorem gNe_bb {p q : Bool} : gNe (.bl p) (.bl q) μ k = k (.bl (!(p == q))) μ := by simp [gNe, okD, deepD, eqD_bb]
theorem gIx_t : gIx (.tup xs) (.int i) μ k = ∃ v, atI xs i = some v ∧ k v μ := rfl
theorem gIx_s : gIx (.str a) (.int i) μ k = (a.length ≤ sizeLine ∧ ∃ c, atI a.cps.toList i = some c ∧ k (.str ⟨#[c]⟩) μ) := rfl
theorem gIx_l : gIx (.lst xs) (.int i) μ k = ∃ v, atI xs i = some v ∧ k v μ := by
  show (∃ xs' v, seqOf μ (.lst xs) = some xs' ∧ atI xs' i = some v ∧ k v μ) = _
  simp [seqOf]
theorem gIx_m {r : Addr} (h : μ r = some (.lst xs)) : gIx (.mref r) (.int i) μ k = ∃ v, atI xs i = some v ∧ k v μ := by
  show (∃ xs' v, seqOf μ (.mref r) = some xs' ∧ atI xs' i = some v ∧ k v μ) = _
  simp [seqOf, h]
theorem atI_0 {α : Type} {x : α} {l : List α} : atI (x :: l) 0 = some x := atI_nat (j := 0) rfl
theorem atI_1 {α : Type} {x y : α} {l : List α} : atI (x :: y :: l) 1 = some y := atI_nat (j := 1) rfl
theorem atI_2 {α : Type} {x y z : α} {l : List α} : atI (x :: y :: z :: l) 2 = some z := atI_nat (j := 2) rfl
theorem atI_3 {α : Type} {x y z u : α} {l : List α} : atI (x :: y :: z :: u :: l) 3 = some u := atI_nat (j := 3) rfl
theorem gLen_s : gLen [.str a] μ k = (a.length ≤ sizeLine ∧ k (.int a.length) μ) := rfl
theorem gLen_t : gLen [.tup xs] μ k = k (.int xs.length) μ := rfl
theorem gLen_l : gLen [.lst xs] μ k = k (.int xs.length) μ := by
  show (∃ xs', seqOf μ (.lst xs) = some xs' ∧ k (.int xs'.length) μ) = _
  simp [seqOf]
theorem gLen_m {r : Addr} (h : μ r = some (.lst xs)) : gLen [.mref r] μ k = k (.int xs.length) μ := by
  show (∃ xs', seqOf μ (.mref r) = some xs' ∧ k (.int xs'.length) μ) = _
  simp [seqOf, h]
theorem gCut_l {lo hi : Option Int} : gCut (.lst xs) lo hi μ k = k (.lst (cutD xs lo hi)) μ := by
  show (∃ xs', seqOf μ (.lst xs) = some xs' ∧ k (.lst (cutD xs' lo hi)) μ) = _
  simp [seqOf]
theorem gCut_s {lo hi : Option Int} : gCut (.str a) lo hi μ k = (a.length ≤ sizeLine ∧ k (.str (cutS a lo hi)) μ) := rfl
theorem gAbs_i : gAbs [.int i] μ k = k (.int (if i < 0 then -i else i)) μ := rfl
theorem gIntOf_i : gIntOf [.int i] μ k = k (.int i) μ := rfl
theorem gRepr_d : gRepr [d] μ k = (okD d = true ∧ (toPy d).showable = true ∧ deepD d ≤ 800 ∧ (reprD d).length ≤ sizeLine ∧ k (.str (reprD d)) μ) := rfl
theorem gIn_s {c : Nat} : gIn (.str ⟨#[c]⟩) (.str a) μ k = k (.bl (decide (c ∈ a.cps.toList))) μ := by
  show (∃ c', (⟨#[c]⟩ : Str) = ⟨#[c']⟩ ∧ k (.bl (decide (c' ∈ a.cps.toList))) μ) = _
  simp
theorem gNotIn_s {c : Nat} : gNotIn (.str ⟨#[c]⟩) (.str a) μ k = k (.bl (!decide (c ∈ a.cps.toList))) μ := by
  show (∃ c', (⟨#[c]⟩ : Str) = ⟨#[c']⟩ ∧ k (.bl (!decide (c' ∈ a.cps.toList))) μ) = _
  simp
theorem gIn_l (h : ∀ e, d = .str e → True) : gIn d (.lst xs) μ k = (okD d = true ∧ okDs xs = true ∧ min (deepDs xs) (deepD d) ≤ 800 ∧ k (.bl (anyD d xs)) μ) := by
  cases d <;> (show (∃ xs', seqOf μ (.lst xs) = some xs' ∧ _) = _) <;> simp [seqOf]
end
theorem gdTup_t {n : Nat} {g : DGs} {xs : List D} {δ : Ds} {μ : Mu} {k : Ds → Mu → Prop} : gdTup n g (.tup xs) δ μ k = (xs.length = n ∧ g xs δ μ k) := by
  show (∃ xs', D.tup xs = .tup xs' ∧ xs'.length = n ∧ g xs' δ μ k) = _
  simp
theorem gdCons_c {g : DG} {r : DGs} {d : D} {ds : List D} {δ : Ds} {μ : Mu} {k : Ds → Mu → Prop} : gdCons g r (d :: ds) δ μ k = g d δ μ fun δ1 μ1 => r ds δ1 μ1 k := by
  show (∃ d' dr, d :: ds = d' :: dr ∧ g d' δ μ fun δ1 μ1 => r dr δ1 μ1 k) = _
  apply propext
  constructor
  · rintro ⟨d', dr, e, h⟩; cases e; exact h
  · exact fun h => ⟨d, ds, rfl, h⟩
theorem gdNil_n {δ : Ds} {μ : Mu} {k : Ds → Mu → Prop} : gdNil [] δ μ k = k δ μ := by
  show (([] : List D) = [] ∧ k δ μ) = _
  simp
/-! ### texts by their signs -/
def tx (l : List Nat) : Str := ⟨l.toArray⟩
theorem tx_cps (l : List Nat) : (tx l).cps.toList = l := by simp [tx]
theorem tx_len (l : List Nat) : (tx l).length = l.length := by show (l.toArray).size = _; simp
theorem tx_app (a b : List Nat) : tx a ++ tx b = tx (a ++ b) := by
  show (⟨(tx a).cps ++ (tx b).cps⟩ : Str) = _
  simp [tx]
theorem tx_one (c : Nat) : (⟨#[c]⟩ : Str) = tx [c] := rfl
theorem tx_beq (a b : List Nat) : (tx a == tx b) = decide (a = b) := by
  by_cases h : a = b
  · subst h; simp
  · have : ¬ tx a = tx b := fun e => h (by have := congrArg (fun s : Str => s.cps.toList) e; simpa [tx] using this)
    simp [h, this]
theorem atI_tx {a : List Nat} {i : Nat} {c : Nat} (h : a[i]? = some c) : atI (tx a).cps.toList (i : Int) = some c := by rw [tx_cps]; exact atI_nat h
theorem line_big : 16777216 ≤ sizeLine := by rw [sizeLine_eq]; decide
/-! ### == of equal data -/
mutual
theorem eqD_self : ∀ d : D, okD d = true → eqD d d = true
  | .non, _ => by simp [eqD, toPy, PyData.eqv]
  | .bl b, _ => by simp [eqD, toPy, PyData.eqv]
  | .int i, _ => by simp [eqD, toPy, PyData.eqv]
  | .str x, _ => by simp [eqD, toPy, PyData.eqv]
  | .lst xs, h => by have := eqDs_self xs (by simpa [okD] using h); simpa [eqD, toPy, PyData.eqv] using this
  | .tup xs, h => by have := eqDs_self xs (by simpa [okD] using h); simpa [eqD, toPy, PyData.eqv] using this
  | .scr ns, _ => by
    have : ∀ ns : List Int, PyData.eqvAll (ns.map PyData.int) (ns.map PyData.int) = true := fun ns => by
      induction ns with
      | nil => simp [PyData.eqvAll]
      | cons n r ih => simp [PyData.eqvAll, PyData.eqv, ih]
    simpa [eqD, toPy, PyData.eqv] using this ns
  | .mref _, h => by simp [okD] at h
  | .exc _ _ _ _ _, h => by simp [okD] at h
theorem eqDs_self : ∀ ds : List D, okDs ds = true → PyData.eqvAll (toPys ds) (toPys ds) = true
  | [], _ => by simp [toPys, PyData.eqvAll]
  | x :: xs, h => by
    have h' : okD x = true ∧ okDs xs = true := by simpa [okDs] using h
    have h1 := eqD_self x h'.1
    have h2 := eqDs_self xs h'.2
    simp only [eqD] at h1
    simp [toPys, PyData.eqvAll, h1, h2]
end
end Once

namespace Once
open PySem PySem.Spec PyProof.Rows L2
/-! ## Instances of own classes -/
def putN (f : Str) : List Str → List Str
  | [] => [f]
  | g :: r => if g = f then g :: r else g :: putN f r
def putV (f : Str) (d : D) : List Str → List D → List D
  | g :: r, x :: xs => if g = f then d :: xs else x :: putV f d r xs
  | _, xs => xs ++ [d]
theorem putF_at {K : PySem.W.Frag} {G : Hp} {f : Str} {v : V} {d : D} (hv : At K G v d) : ∀ {fv : List (Str × V)} {ds : List D}, AtAll K G (fv.map (·.2)) ds → (putF f v fv).map (·.1) = putN f (fv.map (·.1)) ∧ AtAll K G ((putF f v fv).map (·.2)) (putV f d (fv.map (·.1)) ds)
  | [], ds, A => by
    cases A
    exact ⟨rfl, .cons hv .nil⟩
  | (g, x) :: r, ds, A => by
    rw [List.map_cons] at A
    cases A with
    | cons h1 h2 =>
      obtain ⟨e1, e2⟩ := putF_at hv h2
      by_cases e : g = f
      · simp only [putF, putN, putV, List.map_cons, if_pos e]
        exact ⟨trivial, .cons hv h2⟩
      · simp only [putF, putN, putV, List.map_cons, if_neg e]
        exact ⟨by rw [e1], .cons h1 e2⟩
theorem fld_none {K : PySem.W.Frag} {G : Hp} {f : Str} : ∀ {fv : List (Str × V)} {ds : List D}, AtAll K G (fv.map (·.2)) ds → fldOf f (fv.map (·.1)) ds = none → fv.lookup f = none
  | [], ds, A, e => rfl
  | (n, u) :: r, ds, A, e => by
    rw [List.map_cons] at A
    cases A with
    | cons h1 h2 =>
      simp only [fldOf, List.map_cons] at e
      by_cases q : f = n
      · rw [if_pos q] at e; cases e
      · rw [if_neg q] at e
        have := fld_none h2 e
        have nq : (f == n) = false := by simpa using q
        simp only [List.lookup, nq]
        exact this
def dFld (C : Addr) (f : Str) (de : DE) : DE := fun δ μ x k => de δ μ x fun d μ1 => ∃ a ns vs v, d = .mref a ∧ μ1 a = some (.ins C ns vs) ∧ fldOf f ns vs = some v ∧ k v μ1
def dSetF (C : Addr) (f : Str) (dv dp : DE) : DS := fun E δ μ => dv δ μ E.ex fun d μ1 => dp δ μ1 E.ex fun p μ2 => ∃ a ns vs, p = .mref a ∧ μ2 a = some (.ins C ns vs) ∧ ns.length < 1000 ∧ E.nx δ (put μ2 a (.ins C (putN f ns) (putV f d ns vs)))
def dAugF (C : Addr) (f : Str) (g : G2) (dp dv : DE) : DS := fun E δ μ => dp δ μ E.ex fun p μ1 => ∃ a ns vs y, p = .mref a ∧ μ1 a = some (.ins C ns vs) ∧ fldOf f ns vs = some y ∧
  dv δ μ1 E.ex fun d μ2 => g y d μ2 fun z μ3 => ∃ ns' vs', μ3 a = some (.ins C ns' vs') ∧ ns'.length < 1000 ∧ E.nx δ (put μ3 a (.ins C (putN f ns') (putV f z ns' vs')))
section
variable {X : Cx} {W : WX} {a b e o tg value : Expr} {es : List Expr} {da db dv dp : DE} {t : DA} {pos p pos' apos tpos : Pos} {f m x : Str} {C : Addr}
theorem q_fld (h : QE X W e da) (c : Cls X.K C) (n : NoAttr X.K C f) (hb : attributeBase e f X.env (eval e X.env) = eval e X.env := by rfl) : QE X W (.Attribute e f pos) (dFld C f da) :=
  imE (pe_fld h hb) fun σ H Q ⟨G, δ, μ, x, k, R, S, q, f', fx⟩ => ⟨G, δ, μ, x, _, R, S, q, fun G1 H1 v d μ1 S1 R1 A1 ⟨a, ns, vs, w, e1, e2, e3, q1⟩ => by
    subst e1
    cases A1
    obtain ⟨_, dx, fv, h1, h2, h3⟩ := R1.mu a _ e2
    obtain ⟨u, l1, a1⟩ := fld_at h3 (by rw [h2]; exact e3)
    exact ⟨a, C, dx, fv, u, rfl, h1, c, n, l1, f' G1 H1 u w μ1 S1 R1 a1 q1⟩, fx⟩
theorem qs_setF (hv : QE X W value dv) (hp : QE X W o dp) (c : Cls X.K C) (n : NoAttr X.K C f) (hs : swapsWith value (some (.Attribute o f pos')) pos.line X.env = pure false := by rfl) : QS X W (.Assign [.Attribute o f pos'] value pos) (dSetF C f dv dp) :=
  imS (ps_fld hp hv hs) fun T σ H ⟨G, δ, μ, E, R, S, q, g⟩ => ⟨G, δ, μ, E.ex, _, R, S, q, fun G1 H1 v d μ1 S1 R1 A1 q1 =>
    ⟨G1, δ, μ1, E.ex, _, R1, S.up S1, q1, fun G2 H2 pv pd μ2 S2 R2 A2 ⟨a, ns, vs, e1, e2, hn, q2⟩ => by
      subst e1
      cases A2
      obtain ⟨ga, dx, fv, h1, h2, h3⟩ := R2.mu a _ e2
      subst h2
      obtain ⟨p1, p2⟩ := putF_at (f := f) (A1.up S2) h3
      refine ⟨a, C, dx, fv, rfl, h1, c, n, by rw [List.length_map] at hn; exact hn, g.nx G2 _ σ δ _ (S1.trans S2) (R2.layI ga p1 p2) (S.up (S1.trans S2)) q2⟩, g.ex.up S1⟩, g.ex⟩
theorem qs_augF {op : Operator} {g : G2} (hp : QE X W o dp) (hv : QE X W value dv) (hg : IpQ X op g) (c : Cls X.K C) (n : NoAttr X.K C f) : QS X W (.AugAssign (.Attribute o f tpos) op value pos) (dAugF C f g dp dv) :=
  imS (ps_fldaug hp hv ipW) fun T σ H ⟨G, δ, μ, E, R, S, q, fE⟩ => ⟨G, δ, μ, E.ex, _, R, S, q, fun G1 H1 pv pd μ1 S1 R1 A1 ⟨a, ns, vs, y, e1, e2, e3, q1⟩ => by
    subst e1
    cases A1
    obtain ⟨_, dx, fv, h1, h2, h3⟩ := R1.mu a _ e2
    subst h2
    obtain ⟨u, l1, Ay⟩ := fld_at h3 e3
    exact ⟨a, C, dx, fv, u, rfl, h1, c, n, l1, G1, δ, μ1, E.ex, _, R1, S.up S1, q1, fun G2 H2 w d μ2 S2 R2 A2 q2 => hg G2 H2 μ2 u w y d _ _ R2 (Ay.up S2) A2 q2 fun G3 H3 v3 z μ3 S3 R3 A3 ⟨ns', vs', e4, hn, q3⟩ => by
      obtain ⟨ga, dx', fv', k1, k2, k3⟩ := R3.mu a _ e4
      subst k2
      obtain ⟨p1, p2⟩ := putF_at (f := f) A3 k3
      have ST := (S1.trans S2).trans S3
      exact ⟨dx', fv', k1, by rw [List.length_map] at hn; exact hn, fE.nx G3 _ σ δ _ ST (R3.layI ga p1 p2) (S.up ST) q3⟩, fE.ex.up S1⟩, fE.ex⟩
/-! ### methods -/
def dMeth (C : Addr) (m : Str) (F : DF) (dp : DE) (t : DA) : DE := fun δ μ x k => dp δ μ x fun p μ1 => ∃ a ns vs, p = .mref a ∧ μ1 a = some (.ins C ns vs) ∧ fldOf m ns vs = none ∧ t δ μ1 x fun ds μ2 => F (p :: ds) μ2 (fun c fs μ' => x δ c fs μ') k
theorem q_meth {pl : Sem Bool} {g : Addr} {fd : FuncData} {ps : List Str} {F : DF} {k : Nat} (ho : QE X W o dp) (c : Cls X.K C) (hm : Meth X.K C m g) (Fn : FnD X.prog X.w X.K X.mg X.base k g fd ps F) (hr : RoomD k X.A) (hb : Binds X.K fd ps []) (tk : L2N.Takes X W) (ha : QA X W (e :: es) t)
    (hn : (e :: es).length + 1 = ps.length := by rfl) (hst : starEach (e :: es) X.env = (false, eval e X.env) :: starEach es X.env := by rfl) (hpl : (backTo pos (starEach es X.env)).any (·.1) = false := by rfl)
    (ht : eval (.Call (.Attribute o m apos) (e :: es) [] pos) X.env = (do
      let ov ← eval o X.env
      standAt apos.atName
      let (f, first) ← holding [ov] (getMethod ov m pl)
      callWith pos f first (backTo pos (starEach (e :: es) X.env)) (backToKw pos (keywordEach [] X.env))) := by rfl) :
    QE X W (.Call (.Attribute o m apos) (e :: es) [] pos) (dMeth C m F dp t) := by
  refine ⟨fun pins s σ H Q I ⟨G, δ, μ, xx, kk, R, S, q, fv, fx⟩ => ?_⟩
  refine PySem.W.methodCall_KW (pl := pl) (thn (ho.run pins s σ H (fun v H1 => ∃ a dx fs, v = .ref a ∧ H1 a = some (.ins C dx fs) ∧ fs.lookup m = none ∧ (liftA X.K X.mg W (e :: es).length t) σ H1 fun vs H2 => spD X.K X.mg ps.length F (v :: vs) H2 Q (WE W σ)) I
    ⟨G, δ, μ, xx, _, R, S, q, fun G1 H1 v d μ1 S1 R1 A1 ⟨a, ns, vs, e1, e2, e3, q1⟩ => ?_, fx⟩) fun u s1 ⟨v, H1, I1, rx, a, dx, fs, ev, ea, l, q2⟩ => ?_) ht
  · subst e1
    have A1' := A1
    cases A1
    obtain ⟨_, dx, fvs, h1, h2, h3⟩ := R1.mu a _ e2
    subst h2
    exact ⟨a, dx, fvs, rfl, h1, fld_none h3 e3, G1, δ, μ1, xx, _, R1, S.up S1, q1, fun G2 H2 vs2 ds μ2 S2 R2 A2 hn2 q2 => ⟨G2, μ2, .mref a :: ds, _, kk, R2, .cons (A1'.up S2) A2, by rw [List.length_cons, hn2]; exact hn, q2, fv.up (S1.trans S2), fun G3 H3 c' fs cls dd μ3 S3 R3 X3 q3 =>
      fx G3 H3 σ δ c' fs cls dd μ3 ((S1.trans S2).trans S3) R3 (S.up ((S1.trans S2).trans S3)) X3 q3⟩, fx.up S1⟩
  · subst ev
    obtain rfl : u = Value.ref a := rx
    refine getmeth_ok I1 ea c hm l ?_
    refine PySem.W.callWith_K (first := [.ref a]) (h₀ := X.base) I1.ok.mod.kin hm.kp (thn (ha.run pos pins s1 σ H1 _ I1 q2) fun us s2 ⟨vs, H2, I2, r, q3⟩ => ⟨I2.kIn, ?_⟩) hst hpl
    exact run_fnD (us := .ref a :: us) (vs := .ref a :: vs) Fn hr hb tk I2 (.cons rfl r) q3
end
end Once

namespace Once
open PySem PySem.Spec PyProof.Rows L2
section
variable {X : Cx} {W : WX} {a b c e o tg value : Expr} {es : List Expr} {da db dc dv dp : DE} {t : DA} {pos p pos' apos tpos : Pos} {f m x : Str} {C : Addr}
/-- o.m() -/
theorem q_meth0 {pl : Sem Bool} {g : Addr} {fd : FuncData} {ps : List Str} {F : DF} {k : Nat} (ho : QE X W o dp) (c : Cls X.K C) (hm : Meth X.K C m g) (Fn : FnD X.prog X.w X.K X.mg X.base k g fd ps F) (hr : RoomD k X.A) (hb : Binds X.K fd ps []) (tk : L2N.Takes X W)
    (hn : 1 = ps.length := by rfl)
    (ht : eval (.Call (.Attribute o m apos) [] [] pos) X.env = (do
      let ov ← eval o X.env
      standAt apos.atName
      let (f, first) ← holding [ov] (getMethod ov m pl)
      callWith pos f first (backTo pos (starEach [] X.env)) (backToKw pos (keywordEach [] X.env))) := by rfl) :
    QE X W (.Call (.Attribute o m apos) [] [] pos) (dMeth C m F dp dNil) := by
  refine ⟨fun pins s σ H Q I ⟨G, δ, μ, xx, kk, R, S, q, fv, fx⟩ => ?_⟩
  refine PySem.W.methodCall_KW (pl := pl) (thn (ho.run pins s σ H (fun v H1 => ∃ a dx fs, v = .ref a ∧ H1 a = some (.ins C dx fs) ∧ fs.lookup m = none ∧ spD X.K X.mg ps.length F [v] H1 Q (WE W σ)) I
    ⟨G, δ, μ, xx, _, R, S, q, fun G1 H1 v d μ1 S1 R1 A1 ⟨a, ns, vs, e1, e2, e3, q1⟩ => ?_, fx⟩) fun u s1 ⟨v, H1, I1, rx, a, dx, fs, ev, ea, l, q2⟩ => ?_) ht
  · subst e1
    have A1' := A1
    cases A1
    obtain ⟨_, dx, fvs, h1, h2, h3⟩ := R1.mu a _ e2
    subst h2
    exact ⟨a, dx, fvs, rfl, h1, fld_none h3 e3, G1, μ1, [.mref a], _, kk, R1, .cons A1' .nil, hn, q1, fv.up S1, fun G3 H3 c' fs cls dd μ3 S3 R3 X3 q3 =>
      fx G3 H3 σ δ c' fs cls dd μ3 (S1.trans S3) R3 (S.up (S1.trans S3)) X3 q3⟩
  · subst ev
    obtain rfl : u = Value.ref a := rx
    refine getmeth_ok I1 ea c hm l ?_
    exact PySem.W.callWith_K0 (first := [.ref a]) I1.kIn hm.kp (run_fnD (us := [.ref a]) (vs := [.ref a]) Fn hr hb tk I1 (.cons rfl .nil) q2)
/-! ### making an instance -/
/-- a def, by its body, in HandS's room (for __init__, which calls nothing of ours) -/
theorem fn_ofR {P : Program} {w : World} {K : PySem.W.Frag} {mg : Str → Option Value} {base : Heap} {k : Nat} {f : Addr} {name qual : Str} {params : Arguments} {body : List Stmt} {scope : Scope} {dV kV doc pm cdv ct oc : Value} {an od : Option Addr} {osl : Array (Option Value)} {N ps : List Str} {b : DS}
    (lk : K.lookup f = some ⟨oc, od, .func (PySem.W.fnOf name qual params body scope dV kV doc pm an cdv ct), osl⟩) (hcd : PySem.W.codeIn K cdv qual = true) (S : FnScope N ps scope)
    (hbody : ∀ (A : Around) (outer : List Env) (s : Shared) (H : Hp) (E : XK), Room k (A.deeper (envOfC qual scope s.heap.objs.size f cdv)) →
      QSs (cxOf (L2N.CX P w) P w K mg base N qual scope f cdv A outer s H E) (fun cls d _ H' => E cls d H') body b) : FnOk P w K mg base (L2N.CX P w) (k + 1) f (PySem.W.fnOf name qual params body scope dV kV doc pm an cdv ct) ps (spD K mg ps.length (bodyF N.length b)) := by
  refine ⟨fun vs H Q E h => h.len, fun A outer s H args us vs Q E hr e0 hb r hsp => ?_⟩
  have hl : vs.length = ps.length := hsp.len
  have KX : K.In s.heap := e0.mod.kin.keeps fun a o e => (e0.bs a o e).1
  have lim : s.heap.NoLimit := e0.mod.nolimit.keeps fun a o e => (e0.bs a o e).1
  have hkind : ∀ y ∈ ps.zip us, scope.names.lookup y.1 = some .local ∨ (scope.names.lookup y.1 = some .cell ∧ ((cellsFrom (s.heap.objs.size + 1) scope.names []).lookup y.1).isSome = true) := fun y hy =>
    (S.par y.1 (List.of_mem_zip (a := y.1) (b := y.2) hy).1).elim (fun q => .inl q) fun q => .inr ⟨q, PySem.W.cellsFrom_some _ _ _ (.inl q)⟩
  have hd : A.depth < recursionLimit := hr.depth
  refine codeAny_call_function hd (KX _ _ lk) rfl S.co S.gen rfl (PySem.W.codeRec_of KX hcd) (hb _ _ _ _ (wpAny_newFunctionEnv_cells S.kind hkind fun env he s1 x => ?_))
  subst he
  refine ⟨lim.keeps x.toInCall.keep, codeAny_func ?_⟩
  have ht := hbody A outer s H E (hr.deeper _)
  have I : Inv (cxOf (L2N.CX P w) P w K mg base N qual scope f cdv A outer s H E) [] (L2.start N vs) H s1 := inv_start S hr.hd e0 hl r x
  have fin : ∀ {σ' : St} {H' : Hp} {v : V} {u : Value} {s' : Shared}, Inv (cxOf (L2N.CX P w) P w K mg base N qual scope f cdv A outer s H E) [] σ' H' s' → RelV v u → Q v H' → CE outer P w H s Q u s' := fun J rv q => ⟨_, _, J.os, J.bare, J.base, J.hok, rv, q⟩
  obtain ⟨G, μ, ds, xf, kf, R, At0, el, q, f1, f2⟩ := hsp
  refine wpAny_mono (ht.run [] s1 (L2.start N vs) H { nx := fun _ H' => Q .non H', rt := Q } I ⟨G, startD N.length ds, μ, _, R, start_at At0, q, ⟨fun G' H' _ _ μ' S' R' _ q' => f1 G' H' .non .non μ' S' R' .non q', f1, fun _ _ _ _ _ _ _ _ z => z.elim, fun _ _ _ _ _ _ _ _ z => z.elim, fun G' H' _ _ c fs cls dd μ' S' R' _ X' q' => f2 G' H' c fs cls dd μ' S' R' X' q'⟩⟩) (fun fl s' hs => ?_) fun e s' hs => hs
  cases fl with
  | ret u => obtain ⟨v, σ', H', J, rv, q⟩ := hs; exact fin J rv q
  | next => obtain ⟨σ', H', J, q⟩ := hs; exact fin (v := V.non) (u := Value.none) J rfl q
  | brk => obtain ⟨_, _, _, z⟩ := hs; exact False.elim z
  | cont => obtain ⟨_, _, _, z⟩ := hs; exact False.elim z
theorem _root_.L2.Fun.okR {P : Program} {w : World} {K : PySem.W.Frag} {mg : Str → Option Value} {base : Heap} {x qual : Str} {st : Stmt} {f : Addr} {fd : FuncData} {N ps : List Str} {k : Nat} {b : DS} (F : Fun K x qual st f fd) (S : FnScope N ps (defScope st))
    (hbody : ∀ (cdv : Value) (A : Around) (outer : List Env) (s : Shared) (H : Hp) (E : XK), Room k (A.deeper (envOfC qual (defScope st) s.heap.objs.size f cdv)) →
      QSs (cxOf (L2N.CX P w) P w K mg base N qual (defScope st) f cdv A outer s H E) (fun cls d _ H' => E cls d H') (defBody st) b) : FnOk P w K mg base (L2N.CX P w) (k + 1) f fd ps (spD K mg ps.length (bodyF N.length b)) := by
  obtain ⟨oc, od, kV, doc, pm, an, cdv, ct, osl, rfl, lk, hcd⟩ := F.ex
  exact fn_ofR lk hcd S (hbody cdv)
def dMake (C : Addr) (F : DF) (t : DA) : DE := fun δ μ x k => t δ μ x fun ds μ1 => ∀ a, μ1 a = none → F (.mref a :: ds) (put μ1 a (.ins C [] [])) (fun c fs μ' => x δ c fs μ') fun r μ' => r = .non ∧ k (.mref a) μ'
theorem made_rep {K : PySem.W.Frag} {G H : Hp} {μ : Mu} {y dx : Addr} (R : Rep K G H μ) (hy : H y = none) (hd : H dx = none) (ne : dx ≠ y) : Rep K G (upd (upd H dx (.own y)) y (.ins C dx [])) (put μ y (.ins C [] [])) := by
  have R1 : Rep K G (upd H dx (.own y)) μ := by
    refine ⟨fun b u e => ?_, fun b m e => ?_⟩
    · rw [upd_ne (ne_of_none (R.sub b u e) hd)]; exact R.sub b u e
    · obtain ⟨gb, q⟩ := R.mu b m e
      obtain ⟨o', ho⟩ := q.there
      have hb := ne_of_none ho hd
      refine ⟨gb, ?_⟩
      cases m with
      | lst ys => obtain ⟨ws, e1, e2⟩ := q; exact ⟨ws, by rw [upd_ne hb]; exact e1, e2⟩
      | ins C ns ds => obtain ⟨dx', fv, e1, e2, e3⟩ := q; exact ⟨dx', fv, by rw [upd_ne hb]; exact e1, e2, e3⟩
  exact R1.layI (R.sub.free hy) rfl .nil
theorem run_makeD {pins : List (Addr × Obj)} {σ : St} {H : Hp} {s : Shared} {Q : VK} {us : List Value} {vs : List V} {f : Addr} {fd : FuncData} {ps : List Str} {sp : Sp} {k : Nat} (M : Mk X.K C f) (F : FnOk X.prog X.w X.K X.mg X.base (L2N.CX X.prog X.w) k f fd ps sp) (hr : Room (k + 1) X.A) (hb : Binds X.K fd ps [])
    (tk : L2N.Takes X W) (I : Inv X pins σ H s) (r : Vals vs us)
    (h : ∀ x dx, H x = none → H dx = none → dx ≠ x → sp (.ref x :: (vs ++ [])) (upd (upd H dx (.own x)) x (.ins C dx [])) (fun v H2 => v = .non ∧ Q (.ref x) H2) (WE W σ)) :
    wpAny (model X.prog X.w) X.A (call (.ref C) us) (EP X pins σ Q) X.xe s := by
  have hq := h (s.heap.objs.size + 1) s.heap.objs.size (I.hok.fresh (Nat.le_succ _)) (I.hok.fresh (Nat.le_refl _)) (Nat.ne_of_lt (Nat.lt_succ_self _))
  have I2 := Inv.made (C := C) I
  have r2 : Vals (V.ref (s.heap.objs.size + 1) :: (vs ++ [])) (Value.ref (s.heap.objs.size + 1) :: (us ++ [])) := .cons rfl (r.append .nil)
  have hl : (Value.ref (s.heap.objs.size + 1) :: us ++ []).length = ps.length := by
    have e := r2.length
    rw [F.len _ _ _ _ hq] at e
    exact e.symm
  refine wpAny_call (make_map (f := f) I.kIn M.makes M.init (beq_iff_eq.mp M.fn) (codeAny_mono (F.run _ X.stack _ _ ⟨Value.ref (s.heap.objs.size + 1) :: us, []⟩ (Value.ref (s.heap.objs.size + 1) :: (us ++ [])) _ _ (WE W σ) (hr.make C us [])
    (I2.env0.make C us []) (by simpa only [List.cons_append] using hb _ (Value.ref (s.heap.objs.size + 1) :: us) I2.kIn hl) r2 hq) fun r s' hq' => ?_))
  cases r with
  | error e => exact L2N.passAt tk σ pins _ _ e s' I2 hq'
  | ok fl =>
    cases fl with
    | ret u =>
      obtain ⟨v, H', I3, rv, ev, q3⟩ := I2.after hq'
      subst ev
      exact ⟨rv, ⟨V.ref (s.heap.objs.size + 1), H', I3, rfl, q3⟩⟩
    | next => exact False.elim hq'
    | brk => exact False.elim hq'
    | cont => exact False.elim hq'
theorem q_make {fI : Addr} {fd : FuncData} {ps : List Str} {F : DF} {j k : Nat} (M : Mk X.K C fI) (Fn : FnOk X.prog X.w X.K X.mg X.base (L2N.CX X.prog X.w) j fI fd ps (spD X.K X.mg ps.length F)) (hj : j + 1 ≤ 6) (hr : RoomD k X.A) (hg : Gl X x) (hm : X.mg x = some (.ref C)) (hb : Binds X.K fd ps []) (tk : L2N.Takes X W) (ha : QA X W (e :: es) t)
    (hn : (e :: es).length + 1 = ps.length := by rfl) (hdb : (x == ("__debug__" : Str)) = false := by decide) (he : starEach (e :: es) X.env = (false, eval e X.env) :: starEach es X.env := by rfl) (hpl : (backTo pos (starEach es X.env)).any (·.1) = false := by rfl) :
    QE X W (.Call (.Name x p) (e :: es) [] pos) (dMake C F t) := by
  refine ⟨fun pins s σ H Q I ⟨G, δ, μ, xx, kk, R, S, q, fv, fx⟩ => wpAny_Call_Name_kw (ld_glob I hg hm (PySem.W.callWith_K (h₀ := X.base) I.ok.mod.kin M.kp ?_ he hpl) hdb)⟩
  refine thn (ha.run pos pins s σ H (fun vs H1 => ∀ y dx, H1 y = none → H1 dx = none → dx ≠ y → spD X.K X.mg ps.length F (.ref y :: (vs ++ [])) (upd (upd H1 dx (.own y)) y (.ins C dx [])) (fun v H2 => v = .non ∧ Q (.ref y) H2) (WE W σ)) I
    ⟨G, δ, μ, xx, _, R, S, q, fun G1 H1 vs ds μ1 S1 R1 A1 hn1 q1 y dx ny ndx ne => ?_, fx⟩) fun us s1 ⟨vs, H1, I1, r, q2⟩ => ⟨I1.kIn, run_makeD M Fn ((hr.room).mono hj) hb tk I1 r q2⟩
  rw [List.append_nil]
  refine ⟨G1, _, .mref y :: ds, _, _, made_rep R1 ny ndx ne, .cons (.mref y) A1, by rw [List.length_cons, hn1]; exact hn, q1 y (R1.fresh ny), fun G2 H2 v r μ2 S2 R2 A2 ⟨e1, q2⟩ => ?_, fun G3 H3 c' fs cls dd μ3 S3 R3 X3 q3 => fx G3 H3 σ δ c' fs cls dd μ3 (S1.trans S3) R3 (S.up (S1.trans S3)) X3 q3⟩
  subst e1
  cases A2
  exact ⟨rfl, fv G2 H2 _ _ μ2 (S1.trans S2) R2 (.mref y) q2⟩
/-! ### chains of two comparisons -/
def dChain (g g' : G2) (da db dc : DE) : DE := fun δ μ x k => da δ μ x fun d μ1 => db δ μ1 x fun e μ2 => g d e μ2 fun r μ3 => ∃ b, r = .bl b ∧ if b = true then dc δ μ3 x fun h μ4 => g' e h μ4 k else k (.bl false) μ3
theorem imChain {g g' : G2} {op op' : CmpOp} (ho : OpQ X (compareOp op) g) (ho' : OpQ X (compareOp op') g') : ∀ σ H Q, liftE X.K X.mg W (dChain g g' da db dc) σ H Q → tChain (rW X (compareOp op)) (rW X (compareOp op')) (liftE X.K X.mg W da) (liftE X.K X.mg W db) (liftE X.K X.mg W dc) σ H Q := fun σ H Q ⟨G, δ, μ, x, k, R, S, q, f, fx⟩ =>
  ⟨G, δ, μ, x, _, R, S, q, fun G1 H1 v d μ1 S1 R1 A1 q1 =>
    ⟨G1, δ, μ1, x, _, R1, S.up S1, q1, fun G2 H2 u e μ2 S2 R2 A2 q2 => ho G2 H2 μ2 v u d e _ _ R2 (A1.up S2) A2 q2 fun G3 H3 r dr μ3 S3 R3 A3 ⟨b, eb, q3⟩ => by
      subst eb
      cases A3
      have S13 := (S1.trans S2).trans S3
      refine ⟨b, rfl, ?_⟩
      cases b with
      | true => exact ite_tt ⟨G3, δ, μ3, x, _, R3, S.up S13, by simpa using q3, fun G4 H4 w h μ4 S4 R4 A4 q4 => ho' G4 H4 μ4 u w e h k Q R4 (A2.up (S3.trans S4)) A4 q4 (f.up (S13.trans S4)), fx.up S13⟩
      | false => exact ite_ff (f G3 H3 _ _ μ3 S13 R3 (.bl false) (by simpa using q3)), fx.up S1⟩, fx⟩
theorem q_chain {op op' : CmpOp} {g g' : G2} (ho : OpQ X (compareOp op) g) (ho' : OpQ X (compareOp op') g') (ha : QE X W a da) (hb : QE X W b db) (hc : QE X W c dc) (hm : lastMarks [op, op'] [b, c] = false := by with_unfolding_all rfl) :
    QE X W (.Compare a [op, op'] [b, c] pos) (dChain g g' da db dc) := imE (pe_chain opW opW ha hb hc hm) (imChain ho ho')
theorem qt_chain {op op' : CmpOp} {g g' : G2} (ho : OpQ X (compareOp op) g) (ho' : OpQ X (compareOp op') g') (ha : QE X W a da) (hb : QE X W b db) (hc : QE X W c dc) (hm : lastMarks [op, op'] [b, c] = false := by with_unfolding_all rfl) :
    QT X W (.Compare a [op, op'] [b, c] pos) (dB (dChain g g' da db dc)) := imT (pt_chain opW opW ha hb hc hm) fun σ H Q h => by
  obtain ⟨G, δ, μ, x, k, R, S, q, f, fx⟩ := h
  exact imChain ho ho' σ H _ ⟨G, δ, μ, x, _, R, S, q, fun G1 H1 v d μ1 S1 R1 A1 ⟨b, e, q1⟩ => by
    subst e
    cases A1
    exact ⟨b, rfl, f G1 H1 b μ1 S1 R1 q1⟩, fx⟩
/-! ### a list that may change, read by == -/
def dr (μ : Mu) : D → D
  | .mref a => match μ a with
    | some (.lst xs) => .lst xs
    | _ => .mref a
  | d => d
theorem dr_ok {μ : Mu} {d : D} (h : okD d = true) : dr μ d = d := by cases d <;> first | rfl | (simp [okD] at h)
theorem dp_ofM {K : PySem.W.Frag} {G H : Hp} {μ : Mu} {v : V} {d : D} (R : Rep K G H μ) (h : At K G v d) (o : okD (dr μ d) = true) : Dp K H v (toPy (dr μ d)) := by
  cases d with
  | mref a =>
    cases e : μ a with
    | none => simp only [dr, e, okD] at o; cases o
    | some m =>
      cases m with
      | ins C ns vs => simp only [dr, e, okD] at o; cases o
      | lst xs =>
        cases h
        obtain ⟨_, vs, e1, e2⟩ := R.mu a _ e
        simp only [dr, e, okD] at o ⊢
        simpa only [toPy] using Dp.lst (.inl (.of e1)) (dps_of R.sub e2 o)
  | _ => exact dp_of R.sub h o
def gEqM : G2 := fun d e μ k => gEq (dr μ d) (dr μ e) μ k
def gNeM : G2 := fun d e μ k => gNe (dr μ d) (dr μ e) μ k
theorem oq_eqM (hu : Un0 X.A) : OpQ X (compareOp .Eq) gEqM := fun G H μ x y d e k Q R ax ay ⟨o1, o2, hm, q⟩ f pins s σ v u I rx ry => by
  obtain ⟨as, r1⟩ := Dp.reads I _ x v (dp_ofM R ax o1) rx
  obtain ⟨bs, r2⟩ := Dp.reads I _ y u (dp_ofM R ay o2) ry
  refine SeqAt.eq_plain r1 r2 (plain_py _) (plain_py _) (by have := min_deep hm; have := hu.1; omega) ⟨.bl _, H, I, rfl, f G H _ _ μ (Same.refl _) R (.bl _) q⟩
theorem oq_neM (hu : Un0 X.A) : OpQ X (compareOp .NotEq) gNeM := fun G H μ x y d e k Q R ax ay ⟨o1, o2, hm, q⟩ f pins s σ v u I rx ry => by
  obtain ⟨as, r1⟩ := Dp.reads I _ x v (dp_ofM R ax o1) rx
  obtain ⟨bs, r2⟩ := Dp.reads I _ y u (dp_ofM R ay o2) ry
  refine SeqAt.ne_plain r1 r2 (plain_py _) (plain_py _) (by have := min_deep hm; have := hu.1; omega) ⟨.bl _, H, I, rfl, f G H _ _ μ (Same.refl _) R (.bl _) q⟩
/-- a sum of lists that may change later -/
def gAddM : G2 := fun d e μ k => isScr d = false ∧ isScr e = false ∧ ∃ xs ys, seqOf μ d = some xs ∧ seqOf μ e = some ys ∧ xs.length + ys.length ≤ sizeLine ∧ ∀ a, μ a = none → k (.mref a) (put μ a (.lst (xs ++ ys)))
theorem oq_addM : OpQ X (binaryOp .Add) gAddM := by
  intro G H μ x y d e k Q R ax ay h f
  obtain ⟨sd, se, xs, ys, e1, e2, hz, q⟩ := h
  obtain ⟨p, vs, rfl, a1, c1⟩ := seq_rd R ax e1
  obtain ⟨p2, vs2, rfl, a2, c2⟩ := seq_rd R ay e2
  have r1 : Rd H p (.lst vs) := by
    rcases c1 with c | ⟨ns, ed, _⟩
    · exact c
    · subst ed; cases sd
  have r2 : Rd H p2 (.lst vs2) := by
    rcases c2 with c | ⟨ns, ed, _⟩
    · exact c
    · subst ed; cases se
  refine byR cat_any ⟨p, p2, vs, vs2, rfl, rfl, r1, r2, by rw [a1.length, a2.length]; exact hz, fun p3 hp => ?_⟩
  exact f G _ (.ref p3) _ _ (Same.refl _) (R.lay (R.sub.free hp) (a1.append a2)) (.mref p3) (q p3 (R.fresh hp))
/-! ### sum, index -/
theorem ints_at {K : PySem.W.Frag} {G : Hp} : ∀ {ns : List Int} {vs : List V} {ds : List D}, AtAll K G vs ds → ds = ns.map .int → vs = ns.map V.int
  | [], _, _, .nil, _ => rfl
  | n :: ns, _, _, .cons h r, e => by
    rw [List.map_cons] at e
    injection e with e1 e2
    subst e1
    cases h
    rw [ints_at r e2]; rfl
  | [], _, _, .cons _ _, e => by cases e
  | _ :: _, _, _, .nil, e => by cases e
def gSum : GC
  | [d] => fun μ k => ∃ ns : List Int, seqOf μ d = some (ns.map .int) ∧ k (.int ns.sum) μ
  | _ => fun _ _ => False
theorem cq_sum (hc : X.calm = true) : CallQ X (.builtin "sum") gSum := by
  intro G H μ vs ds k Q R A h f
  match ds, A, h with
  | [d], .cons av .nil, ⟨ns, e, q⟩ =>
    obtain ⟨p, ws, rfl, hs, ha⟩ := seq_at R av e
    have ew := ints_at ha rfl
    subst ew
    exact byC (cr_sum hc) ⟨p, ns, rfl, hs, f G H _ _ μ (Same.refl _) R (.int _) q⟩
/-- a tuple of the written part -/
structure KTup (K : PySem.W.Frag) (p : Addr) (ys : List V) : Prop where
  ex : ∃ (o : Obj) (its : Array Value) (n : Nat), K.lookup p = some o ∧ o.cls = .type "tuple" ∧ o.dict = none ∧ o.data = .seq its n ∧ its.size ≤ sizeLine ∧ Vals ys its.toList
theorem KTup.sq {K : PySem.W.Frag} {H : Hp} {p : Addr} {ys : List V} (h : KTup K p ys) : SqT K H p ys := by
  obtain ⟨o, its, n, h1, h2, h3, h4, h5, h6⟩ := h.ex
  exact .inr ⟨o, its, n, h1, h2, h4, h5, h6⟩
theorem strs_all {K : PySem.W.Frag} {G : Hp} : ∀ ys : List Str, AtAll K G (ys.map V.str) (ys.map D.str)
  | [] => .nil
  | y :: ys => .cons (.str y) (strs_all ys)
theorem q_ktup {x : Str} {p : Pos} {q : Addr} {ys : List Str} (hp : PE X (.Name x p) (tC (.ref q))) (T : KTup X.K q (ys.map V.str)) : QE X W (.Name x p) (dC (.tup (ys.map D.str))) :=
  qc hp fun _ => .tup T.sq (strs_all ys)
def dKIdx (ys : List Str) (de : DE) : DE := fun δ μ x k => de δ μ x fun d μ1 => ∃ z j, d = .str z ∧ ys[j]? = some z ∧ (∀ m, m < j → ys[m]? ≠ some z) ∧ k (.int (j : Nat)) μ1
theorem q_kidx {q : Addr} {ys : List Str} {v : Expr} {dv : DE} {apos : Pos} (ho : PE X o (tC (.ref q))) (T : KTup X.K q (ys.map V.str)) (hv : QE X W v dv) (hb : attributeBase o "index" X.env (eval o X.env) = eval o X.env := by rfl)
    (hfew : ((backTo pos (starEach [v] X.env)).all (fun x => !x.1) && (backToKw pos (keywordEach [] X.env)).all (fun x => x.1.isSome) && decide (([v] : List Expr).length + ([] : List Keyword).length + (if ([] : List Keyword).isEmpty then 0 else 1) < 30)) = true := by rfl)
    (hline : (apos.endLine == pos.line) = true := by rfl) (hs : starEach [v] X.env = (false, eval v X.env) :: starEach [] X.env := by rfl) (hp : (backTo pos (starEach [] X.env)).any (·.1) = false := by rfl) :
    QE X W (.Call (.Attribute o "index" apos) [v] [] pos) (dKIdx ys dv) :=
  imE (pe_bm PySem.F.plainAttrs_tuple PySem.F.slot_tuple_index PySem.F.type_tuple_index mt_tup_index ho (pa_cons hv pa_nil hs) hb hfew hline hs hp) fun σ H Q ⟨G, δ, μ, x, k, R, S, qq, f, fx⟩ => by
    obtain ⟨ob, its, n, h1, h2, h3, h4, h5, h6⟩ := T.ex
    refine ⟨.inr (.inl ⟨rfl, ob, h1, h2, h3⟩), G, δ, μ, x, _, R, S, qq, fun G2 H2 u d μ2 S2 R2 A2 ⟨z, j, e1, e2, e3, q2⟩ => ?_, fx⟩
    subst e1
    cases A2
    exact ⟨q, ys, z, j, rfl, rfl, T.sq, e2, e3, f G2 H2 _ _ μ2 S2 R2 (.int _) q2⟩
/-- text.index(sign) that is there -/
def dSIdx (da dv : DE) : DE := fun δ μ x k => da δ μ x fun d μ1 => ∃ a, d = .str a ∧ dv δ μ1 x fun e μ2 => ∃ b i rest, e = .str b ∧ Builtin.Str.occurrences a b 0 a.length 1 = i :: rest ∧ k (.int (i : Nat)) μ2
theorem q_sidx {v : Expr} {dv : DE} {apos : Pos} (ho : QE X W o da) (hv : QE X W v dv) (hs : starEach [v] X.env = [(false, eval v X.env)] := by rfl) (hb : attributeBase o "index" X.env (eval o X.env) = eval o X.env := by rfl) (hl : (apos.endLine == pos.line) = true := by rfl) :
    QE X W (.Call (.Attribute o "index" apos) [v] [] pos) (dSIdx da dv) :=
  imE (pe_m1 PySem.F.slot_str_index PySem.F.type_str_index mt_sindex ho hv hs hb hl) fun σ H Q ⟨G, δ, μ, x, k, R, S, q, f, fx⟩ => ⟨G, δ, μ, x, _, R, S, q, fun G1 H1 v d μ1 S1 R1 A1 ⟨z, e1, q1⟩ => by
    subst e1
    cases A1
    refine ⟨⟨z, rfl⟩, G1, δ, μ1, x, _, R1, S.up S1, q1, fun G2 H2 l dl μ2 S2 R2 A2 ⟨b, i, rest, e2, e3, q2⟩ => ?_, fx.up S1⟩
    subst e2
    cases A2
    exact ⟨z, b, i, rest, rfl, rfl, e3, f G2 H2 _ _ μ2 (S1.trans S2) R2 (.int _) q2⟩, fx⟩
end
/-- a law whose walk knows the addresses of own classes -/
theorem walkDC {Cs : Type} {l : PySem.W.OpenLaw} {n k : Nat} {q : Program} {loose : List Str} {XP : (Str → Option Value) → Heap → Prop} {YP : World → Heap → Prop} {d : DefRec} {K : Params → PySem.W.Frag} {F : Cs → DF} {x : Str}
    (hn : l.most = some n) (hn2 : n ≤ 1000) (hk : k ≤ 600) (hdf : d.params.defaults = [])
    (hY : ∀ (w : World) (h : Heap), YP w h → (K w.params).In h) (hF : ∀ cl, LawD n (F cl))
    (Fn : ∀ (w : World) (mg : Str → Option Value) (fa : Addr) (h : Heap), (K w.params).In h → h.Ns mainGlobals mg → mg d.name = some (.ref fa) →
      ∃ (cl : Cs) (fd : FuncData), (∀ (s : Shared) (u : Value), BindsTo s fd ⟨[u], []⟩ [(x, u)]) ∧ ∀ base : Heap, (K w.params).In base → base.Ns mainGlobals mg → FnD l.prog w (K w.params) mg base k fa fd [x] (F cl)) :
    PySem.W.WalkO q loose XP YP l.row.toRowW d [] (fun f vs => PySem.call f vs) := by
  refine Att.attach_call hn hdf fun w s₀ s₁ mg mb fa o pm cd doc a vs ns G Y ho hd hcd hmg hobj hints hlen hg => ?_
  have KX := hY w _ Y
  obtain ⟨cl, fd, hb, hFn⟩ := Fn w mg fa _ KX G.T.g hmg
  exact lawD KX G.T.g G.T.b G.T.builtins G.T.nolimit hg hobj hints hlen hn2 hk hFn hb (hF cl)
end Once

namespace Once
open PySem PySem.Spec PyProof.Rows L2
/-! ## The text, by places -/
def top (i : Nat) : Stmt := PySem.Challenge.pw_oncelinks_k53_whole_codes_as_numbers.main.body.getD i (.Pass ⟨0, 0, 0, 0⟩)
abbrev s_is_use : Stmt := top 7
abbrev s_count_joiners : Stmt := top 8
abbrev s_text_of_code : Stmt := top 9
abbrev s_taken : Stmt := top 10
abbrev s_code_from : Stmt := top 11
abbrev s_code_of_text : Stmt := top 12
abbrev s_checked : Stmt := top 17
abbrev s_code_numbers : Stmt := top 18
abbrev s_bytes_of_code : Stmt := top 19
abbrev s_Reader_number : Stmt := inClass (top 20) 1
abbrev s_Reader_check : Stmt := inClass (top 20) 2
abbrev s_Reader_part : Stmt := inClass (top 20) 3
abbrev s_Reader_code : Stmt := inClass (top 20) 4
abbrev s_code_of_bytes : Stmt := top 21
abbrev s__law_feed : Stmt := top 23
abbrev s__law_draw : Stmt := top 24
abbrev s__law_is_whole : Stmt := top 25
abbrev s__law_some_code : Stmt := top 26
abbrev s__law_code_numbers : Stmt := top 27
abbrev s__law_told : Stmt := top 28
abbrev s__law_due : Stmt := top 29
abbrev s__law_whole : Stmt := top 30
abbrev s__law_long : Stmt := top 31
abbrev s__law_bent : Stmt := top 32
abbrev s_law : Stmt := top 33
abbrev s_Reader_init : Stmt := inClass (top 20) 0
abbrev N_Reader_init : List Str := ["self", "numbers"]
theorem sc_Reader_init : FnScope N_Reader_init ["self", "numbers"] (defScope s_Reader_init) := ⟨rfl, rfl, rfl, by decide +kernel, rfl, by decide +kernel, by decide +kernel⟩
abbrev s_BadText_init : Stmt := inClass (top 3) 0
abbrev s_BadBytes_init : Stmt := inClass (top 4) 0
abbrev N_is_use : List Str := ["code"]
theorem sc_is_use : FnScope N_is_use ["code"] (defScope s_is_use) := ⟨rfl, rfl, rfl, by decide +kernel, rfl, by decide +kernel, by decide +kernel⟩
abbrev N_count_joiners : List Str := ["code"]
theorem sc_count_joiners : FnScope N_count_joiners ["code"] (defScope s_count_joiners) := ⟨rfl, rfl, rfl, by decide +kernel, rfl, by decide +kernel, by decide +kernel⟩
abbrev N_text_of_code : List Str := ["code"]
theorem sc_text_of_code : FnScope N_text_of_code ["code"] (defScope s_text_of_code) := ⟨rfl, rfl, rfl, by decide +kernel, rfl, by decide +kernel, by decide +kernel⟩
abbrev N_taken : List Str := ["text", "at", "allowed"]
theorem sc_taken : FnScope N_taken ["text", "at", "allowed"] (defScope s_taken) := ⟨rfl, rfl, rfl, by decide +kernel, rfl, by decide +kernel, by decide +kernel⟩
abbrev N_code_from : List Str := ["text", "at", "f", "after", "x", "last"]
theorem sc_code_from : FnScope N_code_from ["text", "at"] (defScope s_code_from) := ⟨rfl, rfl, rfl, by decide +kernel, rfl, by decide +kernel, by decide +kernel⟩
abbrev N_code_of_text : List Str := ["text", "code", "after"]
theorem sc_code_of_text : FnScope N_code_of_text ["text"] (defScope s_code_of_text) := ⟨rfl, rfl, rfl, by decide +kernel, rfl, by decide +kernel, by decide +kernel⟩
abbrev N_checked : List Str := ["numbers"]
theorem sc_checked : FnScope N_checked ["numbers"] (defScope s_checked) := ⟨rfl, rfl, rfl, by decide +kernel, rfl, by decide +kernel, by decide +kernel⟩
abbrev N_code_numbers : List Str := ["code"]
theorem sc_code_numbers : FnScope N_code_numbers ["code"] (defScope s_code_numbers) := ⟨rfl, rfl, rfl, by decide +kernel, rfl, by decide +kernel, by decide +kernel⟩
abbrev N_bytes_of_code : List Str := ["code"]
theorem sc_bytes_of_code : FnScope N_bytes_of_code ["code"] (defScope s_bytes_of_code) := ⟨rfl, rfl, rfl, by decide +kernel, rfl, by decide +kernel, by decide +kernel⟩
abbrev N_Reader_number : List Str := ["self", "least", "most"]
theorem sc_Reader_number : FnScope N_Reader_number ["self", "least", "most"] (defScope s_Reader_number) := ⟨rfl, rfl, rfl, by decide +kernel, rfl, by decide +kernel, by decide +kernel⟩
abbrev N_Reader_check : List Str := ["self", "due"]
theorem sc_Reader_check : FnScope N_Reader_check ["self"] (defScope s_Reader_check) := ⟨rfl, rfl, rfl, by decide +kernel, rfl, by decide +kernel, by decide +kernel⟩
abbrev N_Reader_part : List Str := ["self", "most"]
theorem sc_Reader_part : FnScope N_Reader_part ["self", "most"] (defScope s_Reader_part) := ⟨rfl, rfl, rfl, by decide +kernel, rfl, by decide +kernel, by decide +kernel⟩
abbrev N_Reader_code : List Str := ["self", "number", "f"]
theorem sc_Reader_code : FnScope N_Reader_code ["self"] (defScope s_Reader_code) := ⟨rfl, rfl, rfl, by decide +kernel, rfl, by decide +kernel, by decide +kernel⟩
abbrev N_code_of_bytes : List Str := ["numbers", "reader", "code"]
theorem sc_code_of_bytes : FnScope N_code_of_bytes ["numbers"] (defScope s_code_of_bytes) := ⟨rfl, rfl, rfl, by decide +kernel, rfl, by decide +kernel, by decide +kernel⟩
abbrev N__law_feed : List Str := ["script"]
theorem sc__law_feed : FnScope N__law_feed ["script"] (defScope s__law_feed) := ⟨rfl, rfl, rfl, by decide +kernel, rfl, by decide +kernel, by decide +kernel⟩
abbrev N__law_draw : List Str := ["feed", "many", "mixed", "cell", "told"]
theorem sc__law_draw : FnScope N__law_draw ["feed", "many"] (defScope s__law_draw) := ⟨rfl, rfl, rfl, by decide +kernel, rfl, by decide +kernel, by decide +kernel⟩
abbrev N__law_is_whole : List Str := ["x"]
theorem sc__law_is_whole : FnScope N__law_is_whole ["x"] (defScope s__law_is_whole) := ⟨rfl, rfl, rfl, by decide +kernel, rfl, by decide +kernel, by decide +kernel⟩
abbrev N__law_some_code : List Str := ["feed", "most", "pieces", "step", "k", "at"]
theorem sc__law_some_code : FnScope N__law_some_code ["feed", "most"] (defScope s__law_some_code) := ⟨rfl, rfl, rfl, by decide +kernel, rfl, by decide +kernel, by decide +kernel⟩
abbrev N__law_code_numbers : List Str := ["code"]
theorem sc__law_code_numbers : FnScope N__law_code_numbers ["code"] (defScope s__law_code_numbers) := ⟨rfl, rfl, rfl, by decide +kernel, rfl, by decide +kernel, by decide +kernel⟩
abbrev N__law_told : List Str := ["numbers", "handed", "e", "told"]
theorem sc__law_told : FnScope N__law_told ["numbers"] (defScope s__law_told) := ⟨rfl, rfl, rfl, by decide +kernel, rfl, by decide +kernel, by decide +kernel⟩
abbrev N__law_due : List Str := ["numbers", "wait", "joiners", "heaps", "at", "step", "own", "k", "code"]
theorem sc__law_due : FnScope N__law_due ["numbers"] (defScope s__law_due) := ⟨rfl, rfl, rfl, by decide +kernel, rfl, by decide +kernel, by decide +kernel⟩
abbrev N__law_whole : List Str := ["code", "numbers"]
theorem sc__law_whole : FnScope N__law_whole ["code"] (defScope s__law_whole) := ⟨rfl, rfl, rfl, by decide +kernel, rfl, by decide +kernel, by decide +kernel⟩
abbrev N__law_long : List Str := ["feed", "many", "code", "k", "own"]
theorem sc__law_long : FnScope N__law_long ["feed", "many"] (defScope s__law_long) := ⟨rfl, rfl, rfl, by decide +kernel, rfl, by decide +kernel, by decide +kernel⟩
abbrev N__law_bent : List Str := ["feed", "numbers", "found", "step", "at", "x"]
theorem sc__law_bent : FnScope N__law_bent ["feed", "numbers"] (defScope s__law_bent) := ⟨rfl, rfl, rfl, by decide +kernel, rfl, by decide +kernel, by decide +kernel⟩
abbrev N_law : List Str := ["script", "feed", "turn", "many", "numbers", "code", "due", "told", "bent", "paper", "x"]
theorem sc_law : FnScope N_law ["script"] (defScope s_law) := ⟨rfl, rfl, rfl, by decide +kernel, rfl, by decide +kernel, by decide +kernel⟩
/-! ## What each def does, over data -/
def sub_BadBytes (c : Str) : Option Bool := if c = "BadBytes" then some true else none
theorem sub_BadBytes_is {c : Str} (h : sub_BadBytes c = some true) : c = "BadBytes" := by
  unfold sub_BadBytes at h; split at h
  · assumption
  · cases h
abbrev noF : DF := fun _ _ _ _ => False
structure Cs where
  Reader : Addr
def b_Reader_init (cl : Cs) (W : Nat → DF) : DS :=
  (dSeq (dSetF cl.Reader "numbers" (dVar 1) (dVar 0))
      (dSeq (dSetF cl.Reader "at" (dC (.int 0)) (dVar 0))
      (dSetF cl.Reader "parts" (dC (.int 0)) (dVar 0))))
def b__law_is_whole (cl : Cs) (W : Nat → DF) : DS :=
  (dRet (dAndV (dIsi isInt (dVar 0)) (dNotV (dIsi isBool (dVar 0)))))
def b_is_use (cl : Cs) (W : Nat → DF) : DS :=
  (dRet (dIsi isTup (dVar 0)))
def b_count_joiners (cl : Cs) (W : Nat → DF) : DS :=
  (dSeq (dIf (dB (dCall (W 0) (dCons (dVar 0) dNil))) (dRet (dOp gAdd (dCall (W 1) (dCons (dOp gIx (dVar 0) (dC (.int 0))) dNil)) (dCall (W 1) (dCons (dOp gIx (dVar 0) (dC (.int 1))) dNil)))) dNext)
      (dRet (dC (.int 1))))
def b_text_of_code (cl : Cs) (W : Nat → DF) : DS :=
  (dSeq (dIf (dB (dCall (W 0) (dCons (dVar 0) dNil))) (dRet (dOp gAdd (dOp gAdd (dOp gAdd (dC (.str "(")) (dCall (W 2) (dCons (dOp gIx (dVar 0) (dC (.int 0))) dNil))) (dCall (W 2) (dCons (dOp gIx (dVar 0) (dC (.int 1))) dNil))) (dC (.str ")")))) dNext)
      (dRet (dVar 0)))
def b_taken (cl : Cs) (W : Nat → DF) : DS :=
  (dSeq (dIf (dOr (dB (dOp gEq (dVar 1) (dB1 gLen (dCons (dVar 0) dNil)))) (dB (dOp gNotIn (dOp gIx (dVar 0) (dVar 1)) (dVar 2)))) (dRaise1 "BadText" "at" (dVar 1)) dNext)
      (dRet (dOp gIx (dVar 0) (dVar 1))))
def b_code_from (cl : Cs) (W : Nat → DF) : DS :=
  (dSeq (dIf (dB (dOp gNe (dCall (W 3) (dCons (dVar 0) (dCons (dVar 1) (dCons (dC (.str "(BCI")) dNil)))) (dC (.str "(")))) (dRet (dTup (dCons (dOp gIx (dVar 0) (dVar 1)) (dCons (dOp gAdd (dVar 1) (dC (.int 1))) dNil)))) dNext)
      (dSeq (dUnp 2 (dCall (W 4) (dCons (dVar 0) (dCons (dOp gAdd (dVar 1) (dC (.int 1))) dNil))) (gdCons (gdName 2) (gdCons (gdName 3) gdNil)))
      (dSeq (dUnp 2 (dCall (W 4) (dCons (dVar 0) (dCons (dVar 3) dNil))) (gdCons (gdName 4) (gdCons (gdName 5) gdNil)))
      (dSeq (dDrop (dCall (W 3) (dCons (dVar 0) (dCons (dVar 5) (dCons (dC (.str ")")) dNil)))))
      (dRet (dTup (dCons (dTup (dCons (dVar 2) (dCons (dVar 4) dNil))) (dCons (dOp gAdd (dVar 5) (dC (.int 1))) dNil))))))))
def b_code_of_text (cl : Cs) (W : Nat → DF) : DS :=
  (dSeq (dUnp 2 (dCall (W 4) (dCons (dVar 0) (dCons (dC (.int 0)) dNil))) (gdCons (gdName 1) (gdCons (gdName 2) gdNil)))
      (dSeq (dIf (dB (dOp gLt (dVar 2) (dB1 gLen (dCons (dVar 0) dNil)))) (dRaise1 "BadText" "at" (dVar 2)) dNext)
      (dSeq (dIf (dB (dOp gGt (dCall (W 1) (dCons (dVar 1) dNil)) (dC (.int 120)))) (dRaise1 "BadText" "at" (dB1 gLen (dCons (dVar 0) dNil))) dNext)
      (dRet (dVar 1)))))
def b_checked (cl : Cs) (W : Nat → DF) : DS :=
  (dRet (dOp gAddM (dVar 0) (dLst (dCons (dOp gMod (dB1 gSum (dCons (dVar 0) dNil)) (dC (.int 251))) dNil))))
def b_code_numbers (cl : Cs) (W : Nat → DF) : DS :=
  (dSeq (dIf (dB (dCall (W 0) (dCons (dVar 0) dNil))) (dRet (dOp gAdd (dOp gAdd (dLst (dCons (dC (.int 0)) dNil)) (dCall (W 7) (dCons (dOp gIx (dVar 0) (dC (.int 0))) dNil))) (dCall (W 7) (dCons (dOp gIx (dVar 0) (dC (.int 1))) dNil)))) dNext)
      (dRet (dLst (dCons (dOp gAdd (dC (.int 1)) (dKIdx ["B", "C", "I"] (dVar 0))) dNil))))
def b_bytes_of_code (cl : Cs) (W : Nat → DF) : DS :=
  (dRet (dCall (W 6) (dCons (dOp gAdd (dLst (dCons (dC (.int 79)) dNil)) (dCall (W 7) (dCons (dVar 0) dNil))) dNil)))
def b_Reader_number (cl : Cs) (W : Nat → DF) : DS :=
  (dSeq (dIf (dOr (dB (dOp gEq (dFld cl.Reader "at" (dVar 0)) (dB1 gLen (dCons (dFld cl.Reader "numbers" (dVar 0)) dNil)))) (dNot (dB (dChain gLe gLe (dVar 1) (dOp gIx (dFld cl.Reader "numbers" (dVar 0)) (dFld cl.Reader "at" (dVar 0))) (dVar 2))))) (dRaise1 "BadBytes" "at" (dFld cl.Reader "at" (dVar 0))) dNext)
      (dSeq (dAugF cl.Reader "at" (gInt0 fun i j => .int (i + j)) (dVar 0) (dC (.int 1)))
      (dRet (dOp gIx (dFld cl.Reader "numbers" (dVar 0)) (dOp gSub (dFld cl.Reader "at" (dVar 0)) (dC (.int 1)))))))
def b_Reader_check (cl : Cs) (W : Nat → DF) : DS :=
  (dSeq (dSet 1 (dOp gMod (dB1 gSum (dCons (dCut (dFld cl.Reader "numbers" (dVar 0)) dNoPart (dPart (dFld cl.Reader "at" (dVar 0)))) dNil)) (dC (.int 251))))
      (dSeq (dDrop (dMeth cl.Reader "number" (W 9) (dVar 0) (dCons (dVar 1) (dCons (dVar 1) dNil))))
      (dIf (dB (dOp gLt (dFld cl.Reader "at" (dVar 0)) (dB1 gLen (dCons (dFld cl.Reader "numbers" (dVar 0)) dNil)))) (dRaise1 "BadBytes" "at" (dFld cl.Reader "at" (dVar 0))) dNext)))
def b_Reader_part (cl : Cs) (W : Nat → DF) : DS :=
  (dSeq (dAugF cl.Reader "parts" (gInt0 fun i j => .int (i + j)) (dVar 0) (dC (.int 1)))
      (dIf (dB (dOp gGt (dFld cl.Reader "parts" (dVar 0)) (dVar 1))) (dRaise1 "BadBytes" "at" (dOp gSub (dFld cl.Reader "at" (dVar 0)) (dC (.int 1)))) dNext))
def b_Reader_code (cl : Cs) (W : Nat → DF) : DS :=
  (dSeq (dSet 1 (dMeth cl.Reader "number" (W 9) (dVar 0) (dCons (dC (.int 0)) (dCons (dB1 gLen (dCons (dC (.tup ((["B", "C", "I"] : List Str).map D.str))) dNil)) dNil))))
      (dSeq (dIf (dB (dOp gGt (dVar 1) (dC (.int 0)))) (dRet (dOp gIx (dC (.tup ((["B", "C", "I"] : List Str).map D.str))) (dOp gSub (dVar 1) (dC (.int 1))))) dNext)
      (dSeq (dDrop (dMeth cl.Reader "part" (W 11) (dVar 0) (dCons (dC (.int 120)) dNil)))
      (dSeq (dSet 2 (dMeth cl.Reader "code" (W 12) (dVar 0) dNil))
      (dRet (dTup (dCons (dVar 2) (dCons (dMeth cl.Reader "code" (W 12) (dVar 0) dNil) dNil))))))))
def b_code_of_bytes (cl : Cs) (W : Nat → DF) : DS :=
  (dSeq (dSet 1 (dMake cl.Reader (bodyF 2 (b_Reader_init cl fun _ => noF)) (dCons (dVar 0) dNil)))
      (dSeq (dDrop (dMeth cl.Reader "number" (W 9) (dVar 1) (dCons (dC (.int 79)) (dCons (dC (.int 79)) dNil))))
      (dSeq (dSetF cl.Reader "parts" (dC (.int 1)) (dVar 1))
      (dSeq (dSet 2 (dMeth cl.Reader "code" (W 12) (dVar 1) dNil))
      (dSeq (dDrop (dMeth cl.Reader "check" (W 10) (dVar 1) dNil))
      (dRet (dVar 2)))))))
def b__law_feed (cl : Cs) (W : Nat → DF) : DS :=
  (dRet (dNew (dCons (dB1 gList (dCons (dVar 0) dNil)) (dCons (dC (.int 0)) (dCons (dC (.int 0)) (dCons (dC (.int 1)) dNil))))))
def b__law_draw (cl : Cs) (W : Nat → DF) : DS :=
  (dSeq (dIf (dAnd (dB (dOp gEq (dOp gIx (dVar 0) (dC (.int 2))) (dC (.int 0)))) (dB (dOp gLt (dOp gIx (dVar 0) (dC (.int 1))) (dB1 gLen (dCons (dOp gIx (dVar 0) (dC (.int 0))) dNil))))) (dSeq (dSet 3 (dB1 gAbs (dCons (dB1 gIntOf (dCons (dOp gIx (dOp gIx (dVar 0) (dC (.int 0))) (dOp gIx (dVar 0) (dC (.int 1)))) dNil)) dNil)))
      (dSeq (dAugAt (gInt0 fun i j => .int (i + j)) (dVar 0) (dC (.int 1)) (dC (.int 1)))
      (dIf (dB (dOp gGe (dVar 3) (dOp gPow (dC (.int 10)) (dC (.int 18))))) (dSetAt (dVar 3) (dVar 0) (dC (.int 2))) (dSetAt (dOp gMod (dB1 gIntOf (dCons (dOp gAdd (dOp gAdd (dOp gMul (dOp gIx (dVar 0) (dC (.int 3))) (dC (.int 48271))) (dOp gMul (dVar 3) (dC (.int 69621)))) (dOp gIx (dVar 0) (dC (.int 1)))) dNil)) (dC (.int 2147483647))) (dVar 0) (dC (.int 3)))))) dNext)
      (dSeq (dIf (dB (dOp gGt (dOp gIx (dVar 0) (dC (.int 2))) (dC (.int 0)))) (dSeq (dSet 4 (dOp gMod (dB1 gIntOf (dCons (dOp gIx (dVar 0) (dC (.int 2))) dNil)) (dVar 1)))
      (dSeq (dSetAt (dOp gDiv (dOp gIx (dVar 0) (dC (.int 2))) (dVar 1)) (dVar 0) (dC (.int 2)))
      (dRet (dVar 4)))) dNext)
      (dSeq (dSetAt (dOp gMod (dB1 gIntOf (dCons (dOp gAdd (dOp gMul (dOp gIx (dVar 0) (dC (.int 3))) (dC (.int 16807))) (dC (.int 12345))) dNil)) (dC (.int 2147483647))) (dVar 0) (dC (.int 3)))
      (dSeq (dSet 2 (dOp gMod (dB1 gIntOf (dCons (dOp gAdd (dOp gMul (dOp gIx (dVar 0) (dC (.int 3))) (dOp gIx (dVar 0) (dC (.int 3)))) (dOp gIx (dVar 0) (dC (.int 3)))) dNil)) (dC (.int 2147483629))))
      (dRet (dOp gMod (dOp gDiv (dVar 2) (dC (.int 11))) (dVar 1)))))))
def b__law_some_code (cl : Cs) (W : Nat → DF) : DS :=
  (dSeq (dSet 2 (dComp (dRng1 (dCons (dOp gAdd (dC (.int 1)) (dCall (W 15) (dCons (dVar 0) (dCons (dVar 1) dNil)))) dNil)) 4 dYes (dOp gIx (dLst (dCons (dC (.str "B")) (dCons (dC (.str "C")) (dCons (dC (.str "I")) (dCons (dC (.str "B")) dNil))))) (dCall (W 15) (dCons (dVar 0) (dCons (dC (.int 4)) dNil))))))
      (dSeq (dFor (dRng1 (dCons (dVar 1) dNil)) (gdName 3) (dIf (dB (dOp gGt (dB1 gLen (dCons (dVar 2) dNil)) (dC (.int 1)))) (dSeq (dSet 5 (dCall (W 15) (dCons (dVar 0) (dCons (dOp gSub (dB1 gLen (dCons (dVar 2) dNil)) (dC (.int 1))) dNil))))
      (dSeq (dIf (dB (dOp gEq (dCall (W 15) (dCons (dVar 0) (dCons (dC (.int 2)) dNil))) (dC (.int 0)))) (dSet 5 (dC (.int 0))) dNext)
      (dSet 2 (dOp gAdd (dOp gAdd (dCut (dVar 2) dNoPart (dPart (dVar 5))) (dLst (dCons (dTup (dCons (dOp gIx (dVar 2) (dVar 5)) (dCons (dOp gIx (dVar 2) (dOp gAdd (dVar 5) (dC (.int 1)))) dNil))) dNil))) (dCut (dVar 2) (dPart (dOp gAdd (dVar 5) (dC (.int 2)))) dNoPart))))) dNext))
      (dRet (dOp gIx (dVar 2) (dC (.int 0))))))
def b__law_code_numbers (cl : Cs) (W : Nat → DF) : DS :=
  (dSeq (dIf (dB (dIsi isStr (dVar 0))) (dRet (dLst (dCons (dSIdx (dC (.str " BCI")) (dVar 0)) dNil))) dNext)
      (dRet (dOp gAdd (dOp gAdd (dLst (dCons (dC (.int 0)) dNil)) (dCall (W 18) (dCons (dOp gIx (dVar 0) (dC (.int 0))) dNil))) (dCall (W 18) (dCons (dOp gIx (dVar 0) (dC (.int 1))) dNil)))))
def b__law_told (cl : Cs) (W : Nat → DF) : DS :=
  (dSeq (dSet 1 (dB1 gList (dCons (dVar 0) dNil)))
      (dSeq (dTry 2 (dSet 3 (dCall (W 13) (dCons (dVar 1) dNil))) sub_BadBytes (fun _ a dd => (dSeq (dIf (dOr (dNot (dB (dIsE a "BadBytes" dd true (dVar 2)))) (dOr (dB (dIsE a "BadBytes" dd false (dVar 2))) (dOr (dNot (dB (dCall (bodyF 1 (b__law_is_whole cl fun _ => noF)) (dCons (dXf a "BadBytes" dd "at" (dVar 2)) dNil)))) (dB (dOp gNeM (dVar 1) (dVar 0)))))) (dRet (dTup (dCons (dC (.str "error")) (dCons (dC (.int 0)) dNil)))) dNext)
      (dRet (dTup (dCons (dC (.str "bad")) (dCons (dXf a "BadBytes" dd "at" (dVar 2)) dNil)))))))
      (dSeq (dIf (dB (dOp gNeM (dVar 1) (dVar 0))) (dRet (dTup (dCons (dC (.str "error")) (dCons (dC (.int 1)) dNil)))) dNext)
      (dRet (dTup (dCons (dC (.str "code")) (dCons (dVar 3) dNil)))))))
def b__law_due (cl : Cs) (W : Nat → DF) : DS :=
  (dSeq (dIf (dOr (dB (dOp gEq (dB1 gLen (dCons (dVar 0) dNil)) (dC (.int 0)))) (dB (dOp gNe (dOp gIx (dVar 0) (dC (.int 0))) (dC (.int 79))))) (dRet (dTup (dCons (dC (.str "bad")) (dCons (dC (.int 0)) dNil)))) dNext)
      (dSeq (dSet 1 (dC (.int 1)))
      (dSeq (dSet 2 (dC (.int 1)))
      (dSeq (dSet 3 (dNew dNil))
      (dSeq (dSet 4 (dC (.int 1)))
      (dSeq (dFor (dRng1 (dCons (dC (.int 400)) dNil)) (gdName 5) (dIf (dB (dOp gGt (dVar 1) (dC (.int 0)))) (dSeq (dIf (dOr (dB (dOp gEq (dVar 4) (dB1 gLen (dCons (dVar 0) dNil)))) (dNot (dB (dChain gLe gLe (dC (.int 0)) (dOp gIx (dVar 0) (dVar 4)) (dC (.int 3)))))) (dRet (dTup (dCons (dC (.str "bad")) (dCons (dVar 4) dNil)))) dNext)
      (dSeq (dSet 6 (dC .non))
      (dSeq (dIf (dB (dOp gEq (dOp gIx (dVar 0) (dVar 4)) (dC (.int 0)))) (dSeq (dAug 1 (gInt0 fun i j => .int (i + j)) (dC (.int 1)))
      (dSeq (dAug 2 (gInt0 fun i j => .int (i + j)) (dC (.int 1)))
      (dSeq (dIf (dB (dOp gGt (dVar 2) (dC (.int 120)))) (dRet (dTup (dCons (dC (.str "bad")) (dCons (dVar 4) dNil)))) dNext)
      (dDrop (dApp (dVar 3) (dNew dNil)))))) (dSeq (dSet 6 (dOp gIx (dC (.str "-BCI")) (dOp gIx (dVar 0) (dVar 4))))
      (dAug 1 (gInt0 fun i j => .int (i - j)) (dC (.int 1)))))
      (dSeq (dFor (dRng1 (dCons (dB1 gLen (dCons (dVar 3) dNil)) dNil)) (gdName 7) (dIf (dAnd (dB (dNotN (dVar 6))) (dB (dOp gEq (dB1 gLen (dCons (dOp gIx (dVar 3) (dNeg (dC (.int 1)))) dNil)) (dC (.int 1))))) (dSet 6 (dTup (dCons (dOp gIx (dPop (dVar 3)) (dC (.int 0))) (dCons (dVar 6) dNil)))) dNext))
      (dSeq (dIf (dAnd (dB (dNotN (dVar 6))) (dB (dOp gGt (dB1 gLen (dCons (dVar 3) dNil)) (dC (.int 0))))) (dSeq (dDrop (dApp (dOp gIx (dVar 3) (dNeg (dC (.int 1)))) (dVar 6)))
      (dSet 6 (dC .non))) dNext)
      (dSeq (dAug 4 (gInt0 fun i j => .int (i + j)) (dC (.int 1)))
      (dIf (dB (dOp gEq (dVar 1) (dC (.int 0)))) (dSet 8 (dVar 6)) dNext))))))) dNext))
      (dSeq (dIf (dOr (dB (dOp gEq (dVar 4) (dB1 gLen (dCons (dVar 0) dNil)))) (dB (dOp gNe (dOp gIx (dVar 0) (dVar 4)) (dOp gMod (dB1 gIntOf (dCons (dB1 gSum (dCons (dCut (dVar 0) dNoPart (dPart (dVar 4))) dNil)) dNil)) (dC (.int 251)))))) (dRet (dTup (dCons (dC (.str "bad")) (dCons (dVar 4) dNil)))) dNext)
      (dSeq (dIf (dB (dOp gLt (dOp gAdd (dVar 4) (dC (.int 1))) (dB1 gLen (dCons (dVar 0) dNil)))) (dRet (dTup (dCons (dC (.str "bad")) (dCons (dOp gAdd (dVar 4) (dC (.int 1))) dNil)))) dNext)
      (dRet (dTup (dCons (dC (.str "code")) (dCons (dVar 8) dNil))))))))))))
def b__law_whole (cl : Cs) (W : Nat → DF) : DS :=
  (dSeq (dSet 1 (dOp gAdd (dLst (dCons (dC (.int 79)) dNil)) (dCall (W 18) (dCons (dVar 0) dNil))))
      (dRet (dOp gAdd (dVar 1) (dLst (dCons (dOp gMod (dB1 gIntOf (dCons (dB1 gSum (dCons (dVar 1) dNil)) dNil)) (dC (.int 251))) dNil)))))
def b__law_long (cl : Cs) (W : Nat → DF) : DS :=
  (dSeq (dSet 2 (dC (.str "I")))
      (dSeq (dFor (dRng1 (dCons (dOp gSub (dVar 1) (dC (.int 1))) dNil)) (gdName 3) (dSeq (dSet 4 (dOp gIx (dLst (dCons (dC (.str "B")) (dCons (dC (.str "C")) (dCons (dC (.str "I")) dNil)))) (dCall (W 15) (dCons (dVar 0) (dCons (dC (.int 3)) dNil)))))
      (dSet 2 (dOp gIx (dLst (dCons (dTup (dCons (dVar 2) (dCons (dVar 4) dNil))) (dCons (dTup (dCons (dVar 4) (dCons (dVar 2) dNil))) dNil))) (dCall (W 15) (dCons (dVar 0) (dCons (dC (.int 2)) dNil)))))))
      (dRet (dVar 2))))
def b__law_bent (cl : Cs) (W : Nat → DF) : DS :=
  (dSeq (dSet 2 (dLst (dCons (dOp gAdd (dVar 1) (dLst (dCons (dC (.int 0)) dNil))) (dCons (dCut (dVar 1) dNoPart (dPart (dNeg (dC (.int 1))))) (dCons (dCut (dVar 1) (dPart (dC (.int 1))) dNoPart) (dCons (dLst dNil) (dCons (dOp gAdd (dVar 1) (dVar 1)) dNil)))))))
      (dSeq (dFor (dRng1 (dCons (dC (.int 5)) dNil)) (gdName 3) (dSeq (dSet 4 (dCall (W 15) (dCons (dVar 0) (dCons (dB1 gLen (dCons (dVar 1) dNil)) dNil))))
      (dSeq (dSet 5 (dOp gIx (dLst (dCons (dC (.int 0)) (dCons (dC (.int 1)) (dCons (dC (.int 2)) (dCons (dC (.int 3)) (dCons (dC (.int 4)) (dCons (dNeg (dC (.int 1))) (dCons (dC (.int 79)) (dCons (dOp gPow (dC (.int 10)) (dC (.int 30))) dNil))))))))) (dCall (W 15) (dCons (dVar 0) (dCons (dC (.int 8)) dNil)))))
      (dSet 2 (dOp gAdd (dVar 2) (dLst (dCons (dOp gAdd (dOp gAdd (dCut (dVar 1) dNoPart (dPart (dVar 4))) (dLst (dCons (dVar 5) dNil))) (dCut (dVar 1) (dPart (dOp gAdd (dVar 4) (dC (.int 1)))) dNoPart)) (dCons (dOp gAdd (dCut (dVar 1) dNoPart (dPart (dVar 4))) (dCut (dVar 1) (dPart (dOp gAdd (dVar 4) (dC (.int 1)))) dNoPart)) (dCons (dOp gAdd (dOp gAdd (dCut (dVar 1) dNoPart (dPart (dVar 4))) (dLst (dCons (dVar 5) dNil))) (dCut (dVar 1) (dPart (dVar 4)) dNoPart)) (dCons (dCut (dVar 1) dNoPart (dPart (dVar 4))) dNil))))))))))
      (dRet (dVar 2))))
def b_law (cl : Cs) (W : Nat → DF) : DS :=
  (dSeq (dSet 1 (dCall (W 14) (dCons (dVar 0) dNil)))
      (dSeq (dFor (dRng1 (dCons (dC (.int 4)) dNil)) (gdName 2) (dSeq (dSet 5 (dCall (W 17) (dCons (dVar 1) (dCons (dC (.int 12)) dNil))))
      (dSeq (dSet 6 (dCall (W 21) (dCons (dVar 5) dNil)))
      (dSeq (dSet 7 (dCall (W 8) (dCons (dVar 5) dNil)))
      (dSeq (dIf (dOr (dNot (dB (dIsi isList (dVar 7)))) (dOr (dB (dOp gNeM (dVar 7) (dVar 6))) (dOr (dB (dOp gGt (dB1 gLen (dCons (dComp (dIter (dVar 7)) 10 (dNot (dB (dCall (W 16) (dCons (dVar 10) dNil)))) (dVar 10)) dNil)) (dC (.int 0)))) (dB (dOp gNe (dCall (W 19) (dCons (dVar 7) dNil)) (dTup (dCons (dC (.str "code")) (dCons (dVar 5) dNil)))))))) (dRet (dC (.bl false))) dNext)
      (dSeq (dIf (dOr (dB (dOp gNe (dB1 gRepr (dCons (dCall (W 19) (dCons (dVar 7) dNil)) dNil)) (dB1 gRepr (dCons (dTup (dCons (dC (.str "code")) (dCons (dVar 5) dNil))) dNil)))) (dB (dOp gNe (dCall (W 13) (dCons (dFrz (dCall (W 8) (dCons (dCall (W 5) (dCons (dCall (W 2) (dCons (dVar 5) dNil)) dNil)) dNil))) dNil)) (dVar 5)))) (dRet (dC (.bl false))) dNext)
      (dSeq (dDrop (dApp (dVar 7) (dC (.int 0))))
      (dSeq (dIf (dB (dOp gNe (dFrz (dCall (W 8) (dCons (dVar 5) dNil))) (dVar 6))) (dRet (dC (.bl false))) dNext)
      (dFor (dIter (dCall (W 23) (dCons (dVar 1) (dCons (dVar 6) dNil)))) (gdName 8) (dFor (dIter (dLst (dCons (dVar 8) (dCons (dOp gAdd (dCut (dVar 8) dNoPart (dPart (dNeg (dC (.int 1))))) (dLst (dCons (dOp gMod (dB1 gIntOf (dCons (dB1 gSum (dCons (dCut (dVar 8) dNoPart (dPart (dNeg (dC (.int 1))))) dNil)) dNil)) (dC (.int 251))) dNil))) dNil)))) (gdName 9) (dIf (dB (dOp gNe (dCall (W 19) (dCons (dVar 9) dNil)) (dCall (W 20) (dCons (dVar 9) dNil)))) (dRet (dC (.bl false))) dNext)))))))))))
      (dSeq (dSet 3 (dOp gAdd (dC (.int 119)) (dCall (W 15) (dCons (dVar 1) (dCons (dC (.int 4)) dNil)))))
      (dSeq (dSet 4 (dCall (W 21) (dCons (dCall (W 22) (dCons (dVar 1) (dCons (dVar 3) dNil))) dNil)))
      (dSeq (dIf (dOr (dB (dOp gNe (dCall (W 19) (dCons (dVar 4) dNil)) (dCall (W 20) (dCons (dVar 4) dNil)))) (dB (dOp gNe (dOp gEq (dOp gIx (dCall (W 19) (dCons (dVar 4) dNil)) (dC (.int 0))) (dC (.str "bad"))) (dOp gGt (dVar 3) (dC (.int 120)))))) (dRet (dC (.bl false))) dNext)
      (dSeq (dIf (dOr (dB (dOp gNe (dFrz (dCall (W 8) (dCons (dTup (dCons (dTup (dCons (dC (.str "B")) (dCons (dC (.str "C")) dNil))) (dCons (dC (.str "I")) dNil))) dNil))) (dLst (dCons (dC (.int 79)) (dCons (dC (.int 0)) (dCons (dC (.int 0)) (dCons (dC (.int 1)) (dCons (dC (.int 2)) (dCons (dC (.int 3)) (dCons (dC (.int 85)) dNil)))))))))) (dOr (dB (dOp gNe (dCall (W 19) (dCons (dLst (dCons (dC (.int 79)) (dCons (dC (.int 1)) (dCons (dC (.int 80)) dNil)))) dNil)) (dTup (dCons (dC (.str "code")) (dCons (dC (.str "B")) dNil))))) (dB (dOp gNe (dCall (W 19) (dCons (dLst (dCons (dC (.int 79)) (dCons (dC (.int 0)) (dCons (dC (.int 1)) dNil)))) dNil)) (dTup (dCons (dC (.str "bad")) (dCons (dC (.int 3)) dNil))))))) (dRet (dC (.bl false))) dNext)
      (dRet (dAndV (dOp gEq (dCall (W 19) (dCons (dLst (dCons (dC (.int 79)) (dCons (dC (.int 1)) (dCons (dC (.int 81)) dNil)))) dNil)) (dTup (dCons (dC (.str "bad")) (dCons (dC (.int 2)) dNil)))) (dAndV (dOp gEq (dCall (W 19) (dCons (dLst (dCons (dC (.int 78)) (dCons (dC (.int 1)) (dCons (dC (.int 79)) dNil)))) dNil)) (dTup (dCons (dC (.str "bad")) (dCons (dC (.int 0)) dNil)))) (dAndV (dOp gEq (dCall (W 19) (dCons (dLst (dCons (dC (.int 79)) (dCons (dC (.int 4)) dNil))) dNil)) (dTup (dCons (dC (.str "bad")) (dCons (dC (.int 1)) dNil)))) (dOp gEq (dCall (W 19) (dCons (dLst (dCons (dC (.int 79)) (dCons (dC (.int 1)) (dCons (dC (.int 80)) (dCons (dC (.int 0)) dNil))))) dNil)) (dTup (dCons (dC (.str "bad")) (dCons (dC (.int 3)) dNil))))))))))))))
def bodies (cl : Cs) (W : Nat → DF) : Nat → DF
  | 0 => bodyF 1 (b_is_use cl W)
  | 1 => bodyF 1 (b_count_joiners cl W)
  | 2 => bodyF 1 (b_text_of_code cl W)
  | 3 => bodyF 3 (b_taken cl W)
  | 4 => bodyF 6 (b_code_from cl W)
  | 5 => bodyF 3 (b_code_of_text cl W)
  | 6 => bodyF 1 (b_checked cl W)
  | 7 => bodyF 1 (b_code_numbers cl W)
  | 8 => bodyF 1 (b_bytes_of_code cl W)
  | 9 => bodyF 3 (b_Reader_number cl W)
  | 10 => bodyF 2 (b_Reader_check cl W)
  | 11 => bodyF 2 (b_Reader_part cl W)
  | 12 => bodyF 3 (b_Reader_code cl W)
  | 13 => bodyG 3 (b_code_of_bytes cl W)
  | 14 => bodyF 1 (b__law_feed cl W)
  | 15 => bodyF 5 (b__law_draw cl W)
  | 16 => bodyF 1 (b__law_is_whole cl W)
  | 17 => bodyF 6 (b__law_some_code cl W)
  | 18 => bodyF 1 (b__law_code_numbers cl W)
  | 19 => bodyF 4 (b__law_told cl W)
  | 20 => bodyG 9 (b__law_due cl W)
  | 21 => bodyF 2 (b__law_whole cl W)
  | 22 => bodyF 5 (b__law_long cl W)
  | 23 => bodyF 6 (b__law_bent cl W)
  | 24 => bodyG 11 (b_law cl W)
  | _ => noF
def WW (cl : Cs) : Nat → Nat → DF
  | 0 => fun _ => noF
  | k + 1 => bodies cl (WW cl k)
theorem u_is_use (cl : Cs) (k : Nat) : WW cl (k + 1) 0 = bodyF 1 (b_is_use cl (WW cl k)) := rfl
theorem u_count_joiners (cl : Cs) (k : Nat) : WW cl (k + 1) 1 = bodyF 1 (b_count_joiners cl (WW cl k)) := rfl
theorem u_text_of_code (cl : Cs) (k : Nat) : WW cl (k + 1) 2 = bodyF 1 (b_text_of_code cl (WW cl k)) := rfl
theorem u_taken (cl : Cs) (k : Nat) : WW cl (k + 1) 3 = bodyF 3 (b_taken cl (WW cl k)) := rfl
theorem u_code_from (cl : Cs) (k : Nat) : WW cl (k + 1) 4 = bodyF 6 (b_code_from cl (WW cl k)) := rfl
theorem u_code_of_text (cl : Cs) (k : Nat) : WW cl (k + 1) 5 = bodyF 3 (b_code_of_text cl (WW cl k)) := rfl
theorem u_checked (cl : Cs) (k : Nat) : WW cl (k + 1) 6 = bodyF 1 (b_checked cl (WW cl k)) := rfl
theorem u_code_numbers (cl : Cs) (k : Nat) : WW cl (k + 1) 7 = bodyF 1 (b_code_numbers cl (WW cl k)) := rfl
theorem u_bytes_of_code (cl : Cs) (k : Nat) : WW cl (k + 1) 8 = bodyF 1 (b_bytes_of_code cl (WW cl k)) := rfl
theorem u_Reader_number (cl : Cs) (k : Nat) : WW cl (k + 1) 9 = bodyF 3 (b_Reader_number cl (WW cl k)) := rfl
theorem u_Reader_check (cl : Cs) (k : Nat) : WW cl (k + 1) 10 = bodyF 2 (b_Reader_check cl (WW cl k)) := rfl
theorem u_Reader_part (cl : Cs) (k : Nat) : WW cl (k + 1) 11 = bodyF 2 (b_Reader_part cl (WW cl k)) := rfl
theorem u_Reader_code (cl : Cs) (k : Nat) : WW cl (k + 1) 12 = bodyF 3 (b_Reader_code cl (WW cl k)) := rfl
theorem u_code_of_bytes (cl : Cs) (k : Nat) : WW cl (k + 1) 13 = bodyG 3 (b_code_of_bytes cl (WW cl k)) := rfl
theorem u__law_feed (cl : Cs) (k : Nat) : WW cl (k + 1) 14 = bodyF 1 (b__law_feed cl (WW cl k)) := rfl
theorem u__law_draw (cl : Cs) (k : Nat) : WW cl (k + 1) 15 = bodyF 5 (b__law_draw cl (WW cl k)) := rfl
theorem u__law_is_whole (cl : Cs) (k : Nat) : WW cl (k + 1) 16 = bodyF 1 (b__law_is_whole cl (WW cl k)) := rfl
theorem u__law_some_code (cl : Cs) (k : Nat) : WW cl (k + 1) 17 = bodyF 6 (b__law_some_code cl (WW cl k)) := rfl
theorem u__law_code_numbers (cl : Cs) (k : Nat) : WW cl (k + 1) 18 = bodyF 1 (b__law_code_numbers cl (WW cl k)) := rfl
theorem u__law_told (cl : Cs) (k : Nat) : WW cl (k + 1) 19 = bodyF 4 (b__law_told cl (WW cl k)) := rfl
theorem u__law_due (cl : Cs) (k : Nat) : WW cl (k + 1) 20 = bodyG 9 (b__law_due cl (WW cl k)) := rfl
theorem u__law_whole (cl : Cs) (k : Nat) : WW cl (k + 1) 21 = bodyF 2 (b__law_whole cl (WW cl k)) := rfl
theorem u__law_long (cl : Cs) (k : Nat) : WW cl (k + 1) 22 = bodyF 5 (b__law_long cl (WW cl k)) := rfl
theorem u__law_bent (cl : Cs) (k : Nat) : WW cl (k + 1) 23 = bodyF 6 (b__law_bent cl (WW cl k)) := rfl
theorem u_law (cl : Cs) (k : Nat) : WW cl (k + 1) 24 = bodyG 11 (b_law cl (WW cl k)) := rfl
end Once

namespace Once
open PySem PySem.Spec PyProof.Rows L2
variable {cl : Cs}
local macro_rules | `(tactic| walk_at "d") => `(tactic| simp only [dSeq, dNext, dRet, dRetN, dDrop, dIf, dB, dOp, dVar, dC, dNil, dCons, dTup, dLst, dCall, dSet, dUnp, gdTup_t, gdCons_c, gdName, gdNil_n, dAnd, dOr, dNot, dAndV, dOrV, dNotV, dIfE, dIsi, dIsN, dNotN, dB1, dCut, dNoPart, dPart, dNeg, bodyF, startD, bodies, dRaise1,
  List.map_cons, List.map_nil, List.length_cons, List.length_nil, Nat.reduceAdd, Nat.reduceSub, List.replicate_succ, List.replicate_zero, List.cons_append, List.nil_append, List.append_nil, Nat.zero_add,
  List.getElem?_cons_zero, List.getElem?_cons_succ, Option.some.injEq, exists_eq_left', exists_eq_left, List.set_cons_zero, List.set_cons_succ, D.bl.injEq, D.int.injEq, D.str.injEq, D.tup.injEq, List.cons.injEq, and_true, true_and, Bool.not_true, Bool.not_false, if_true, if_false, Bool.false_eq_true, reduceCtorEq,
  gAdd_ii, gAdd_ss, gAdd_ll, gSub_ii, gMul_ii, gDiv_ii, gMod_ii, gPow_ii, gInt0_ii, gLt_ii, gLe_ii, gGt_ii, gGe_ii, gEq_ii, gEq_ss, gEq_bb, gNe_ii, gNe_ss, gNe_bb, gIx_t, gIx_s, gIx_l, atI_0, atI_1, atI_2, atI_3, gLen_s, gLen_t, gLen_l, gCut_l, gCut_s, gAbs_i, gIntOf_i, gIn_s, gNotIn_s])
theorem s_op : ("(" : Str) = tx [40] := rfl
theorem s_cl : (")" : Str) = tx [41] := rfl
theorem s_bci : ("(BCI" : Str) = tx [40, 66, 67, 73] := rfl
inductive Code where
  | B | C | I | use (f x : Code)
def codeD : Code → D
  | .B => .str (tx [66]) | .C => .str (tx [67]) | .I => .str (tx [73])
  | .use f x => .tup [codeD f, codeD x]
def Code.size : Code → Nat
  | .use f x => f.size + x.size
  | _ => 1
def Code.deep : Code → Nat
  | .use f x => max f.deep x.deep + 1
  | _ => 0
def Code.isUse : Code → Bool
  | .use _ _ => true
  | _ => false
def Code.txt : Code → List Nat
  | .B => [66] | .C => [67] | .I => [73]
  | .use f x => 40 :: (f.txt ++ (x.txt ++ [41]))
theorem Code.pos : ∀ c : Code, 0 < c.size
  | .B => by simp [size]
  | .C => by simp [size]
  | .I => by simp [size]
  | .use f x => by have := f.pos; simp only [size]; omega
theorem Code.txt_len : ∀ c : Code, c.txt.length + 2 = 3 * c.size
  | .B => by simp [size, txt]
  | .C => by simp [size, txt]
  | .I => by simp [size, txt]
  | .use f x => by have h1 := f.txt_len; have h2 := x.txt_len; have := f.pos; have := x.pos; simp only [size, txt, List.length_cons, List.length_append, List.length_nil]; omega
theorem Code.deep_lt : ∀ c : Code, c.deep < c.size
  | .B => by simp [size, deep]
  | .C => by simp [size, deep]
  | .I => by simp [size, deep]
  | .use f x => by have h1 := f.deep_lt; have h2 := x.deep_lt; simp only [size, deep]; omega
theorem code_ok : ∀ c : Code, okD (codeD c) = true
  | .B => by simp [codeD, okD]
  | .C => by simp [codeD, okD]
  | .I => by simp [codeD, okD]
  | .use f x => by have h1 := code_ok f; have h2 := code_ok x; simp [codeD, okD, okDs, h1, h2]
theorem code_deep : ∀ c : Code, deepD (codeD c) = c.deep
  | .B => by simp [codeD, deepD, Code.deep]
  | .C => by simp [codeD, deepD, Code.deep]
  | .I => by simp [codeD, deepD, Code.deep]
  | .use f x => by have h1 := code_deep f; have h2 := code_deep x; simp only [codeD, deepD, deepDs, Code.deep, h1, h2]; omega
theorem isTup_code (c : Code) : isTup (codeD c) = c.isUse := by cases c <;> rfl
theorem ask_code (μ : Mu) (c : Code) : askD μ (codeD c) := by cases c <;> exact trivial
section
variable {k : Nat} {μ : Mu} {x : DXF} {Q : DK}
theorem w_is_use (c : Code) (h : Q (.bl c.isUse) μ) : WW cl (k + 1) 0 [codeD c] μ x Q := by
  rw [u_is_use, b_is_use]
  walk_at "d"
  rw [isTup_code]
  exact ⟨ask_code μ c, h⟩
theorem w_count : ∀ (c : Code) (k : Nat) (Q : DK), c.deep + 2 ≤ k → Q (.int c.size) μ → WW cl k 1 [codeD c] μ x Q := by
  intro c
  induction c with
  | use f y hf hy =>
    intro k Q hk h
    obtain ⟨k, rfl⟩ : ∃ j, k = j + 2 := ⟨k - 2, by simp only [Code.deep] at hk; omega⟩
    simp only [Code.deep] at hk
    rw [u_count_joiners, b_count_joiners]
    walk_at "d"
    refine w_is_use (k := k) (.use f y) ?_
    simp only [Code.isUse, codeD]
    walk_at "d"
    refine hf _ _ (by omega) (hy _ _ (by omega) ?_)
    walk_at "d"
    simpa [Code.size] using h
  | _ =>
    intro k Q hk h
    obtain ⟨k, rfl⟩ : ∃ j, k = j + 2 := ⟨k - 2, by simp only [Code.deep] at hk; omega⟩
    rw [u_count_joiners, b_count_joiners]
    walk_at "d"
    refine w_is_use (k := k) _ ?_
    simp only [Code.isUse]
    walk_at "d"
    simpa [Code.size] using h
theorem w_text : ∀ (c : Code) (k : Nat) (Q : DK), c.size ≤ 1000 → c.deep + 2 ≤ k → Q (.str (tx c.txt)) μ → WW cl k 2 [codeD c] μ x Q := by
  intro c
  induction c with
  | use f y hf hy =>
    intro k Q hs hk h
    obtain ⟨k, rfl⟩ : ∃ j, k = j + 2 := ⟨k - 2, by simp only [Code.deep] at hk; omega⟩
    simp only [Code.deep] at hk
    simp only [Code.size] at hs
    have h1 := f.txt_len
    have h2 := y.txt_len
    have h3 := line_big
    rw [u_text_of_code, b_text_of_code]
    walk_at "d"
    refine w_is_use (k := k) (.use f y) ?_
    simp only [Code.isUse, codeD]
    walk_at "d"
    refine hf _ _ (by omega) (by omega) ?_
    walk_at "d"
    rw [s_op, s_cl, tx_app]
    refine ⟨by simp only [tx_len, List.length_cons, List.length_nil]; omega, hy _ _ (by omega) (by omega) ?_⟩
    walk_at "d"
    rw [tx_app, tx_app]
    refine ⟨by simp only [tx_len, List.length_cons, List.length_nil, List.length_append]; omega, by simp only [tx_len, List.length_cons, List.length_nil, List.length_append]; omega, ?_⟩
    simpa [Code.txt] using h
  | _ =>
    intro k Q hs hk h
    obtain ⟨k, rfl⟩ : ∃ j, k = j + 2 := ⟨k - 2, by simp only [Code.deep] at hk; omega⟩
    rw [u_text_of_code, b_text_of_code]
    walk_at "d"
    refine w_is_use (k := k) _ ?_
    simp only [Code.isUse]
    walk_at "d"
    simpa [Code.txt, codeD] using h
end
/-! ### reading a code -/
inductive PR where
  | err (rest : List Nat) | ok (c : Code) (rest : List Nat)
def shut (f x : Code) : List Nat → PR
  | [] => .err []
  | s :: r => if s = 41 then .ok (.use f x) r else .err (s :: r)
def parse : Nat → List Nat → PR
  | 0, r => .err r
  | _ + 1, [] => .err []
  | n + 1, s :: r => if s = 40 then (match parse n r with
      | .err e => .err e
      | .ok f r1 => match parse n r1 with
        | .err e => .err e
        | .ok x r2 => shut f x r2)
    else if s = 66 then .ok .B r else if s = 67 then .ok .C r else if s = 73 then .ok .I r else .err (s :: r)
def opens (l : List Nat) : Nat := l.count 40
theorem opens_cons (s : Nat) (l : List Nat) : opens (s :: l) = opens l + (if s = 40 then 1 else 0) := by
  unfold opens; rw [List.count_cons]; simp
theorem opens_app (a b : List Nat) : opens (a ++ b) = opens a + opens b := by unfold opens; rw [List.count_append]
theorem shut_ok {f x c : Code} {r r' : List Nat} (h : shut f x r = .ok c r') : c = .use f x ∧ r = 41 :: r' := by
  cases r with
  | nil => cases h
  | cons s r =>
    simp only [shut] at h
    split at h
    · rename_i e; cases h; subst e; exact ⟨rfl, rfl⟩
    · cases h
theorem shut_err {f x : Code} {r e : List Nat} (h : shut f x r = .err e) : e = r := by
  cases r with
  | nil => cases h; rfl
  | cons s r =>
    simp only [shut] at h
    split at h
    · cases h
    · cases h; rfl
theorem parse_ok : ∀ (n : Nat) (l : List Nat) (c : Code) (r : List Nat), parse n l = .ok c r → l = c.txt ++ r
  | 0, l, c, r, h => by cases h
  | n + 1, [], c, r, h => by cases h
  | n + 1, s :: l, c, r, h => by
    simp only [parse] at h
    by_cases e : s = 40
    · rw [if_pos e] at h
      cases h1 : parse n l with
      | err z => rw [h1] at h; cases h
      | ok f r1 =>
        rw [h1] at h
        simp only at h
        cases h2 : parse n r1 with
        | err z => rw [h2] at h; cases h
        | ok y r2 =>
          rw [h2] at h
          obtain ⟨e1, e2⟩ := shut_ok h
          subst e e1 e2
          rw [parse_ok n l f r1 h1, parse_ok n r1 y _ h2]
          simp [Code.txt]
    · rw [if_neg e] at h
      by_cases e1 : s = 66
      · rw [if_pos e1] at h; cases h; subst e1; rfl
      · rw [if_neg e1] at h
        by_cases e2 : s = 67
        · rw [if_pos e2] at h; cases h; subst e2; rfl
        · rw [if_neg e2] at h
          by_cases e3 : s = 73
          · rw [if_pos e3] at h; cases h; subst e3; rfl
          · rw [if_neg e3] at h; cases h
/-- the text of a code is read as that code -/
theorem parse_txt : ∀ (c : Code) (n : Nat) (r : List Nat), c.deep < n → parse n (c.txt ++ r) = .ok c r
  | .B, n + 1, r, _ => rfl
  | .C, n + 1, r, _ => rfl
  | .I, n + 1, r, _ => rfl
  | .use f x, n + 1, r, h => by
    simp only [Code.deep] at h
    have h1 := parse_txt f n (x.txt ++ (41 :: r)) (by omega)
    have h2 := parse_txt x n (41 :: r) (by omega)
    simp only [Code.txt, List.cons_append, List.append_assoc, List.nil_append, parse, if_true, h1, h2, shut]
section
variable {k : Nat} {μ : Mu} {x : DXF} {Q : DK}
/-- taken -/
theorem w_taken {z p rest al : List Nat} (hz : z = p ++ rest) (hl : z.length ≤ 100000) (h1 : ∀ s r, rest = s :: r → s ∈ al → Q (.str (tx [s])) μ)
    (h2 : (∀ s r, rest = s :: r → s ∉ al) → x "BadText" (["at"], [.int (p.length : Nat)]) μ) : WW cl (k + 1) 3 [.str (tx z), .int (p.length : Nat), .str (tx al)] μ x Q := by
  have h3 := line_big
  rw [u_taken, b_taken]
  walk_at "d"
  refine ⟨by rw [tx_len]; omega, ?_⟩
  rw [tx_len]
  cases rest with
  | nil =>
    have e : ((p.length : Nat) : Int) = ((z.length : Nat) : Int) := by rw [hz]; simp
    rw [e]
    simp only [beq_self_eq_true, if_true]
    rw [← e]
    exact h2 (fun s r q => by cases q)
  | cons s r =>
    have hlt : p.length < z.length := by rw [hz]; simp
    have ne : (((p.length : Nat) : Int) == ((z.length : Nat) : Int)) = false := by simp; omega
    have ea : atI (tx z).cps.toList ((p.length : Nat) : Int) = some s := atI_tx (by rw [hz]; simp)
    simp only [ne, Bool.false_eq_true, if_false]
    refine ⟨by omega, s, ea, ?_⟩
    rw [tx_cps al]
    by_cases hm : s ∈ al
    · rw [if_neg (by simp [hm])]
      exact ⟨by omega, s, ea, h1 s r rfl hm⟩
    · rw [if_pos (by simp [hm])]
      exact h2 (fun s' r' e => by cases e; exact hm)
/-- code_from; places are told by what is left -/
def left (z r : List Nat) : D := .int ((z.length - r.length : Nat) : Int)
theorem left_at {z p r : List Nat} (h : z = p ++ r) : left z r = .int (p.length : Nat) := by unfold left; rw [h, List.length_append]; congr 1; omega
theorem parse_suf : ∀ (n : Nat) (l e : List Nat), parse n l = .err e → ∃ p, l = p ++ e
  | 0, l, e, h => by cases h; exact ⟨[], rfl⟩
  | n + 1, [], e, h => by cases h; exact ⟨[], rfl⟩
  | n + 1, s :: l, e, h => by
    simp only [parse] at h
    by_cases e1 : s = 40
    · rw [if_pos e1] at h
      cases h1 : parse n l with
      | err z =>
        rw [h1] at h; cases h
        obtain ⟨p, hp⟩ := parse_suf n l _ h1
        exact ⟨s :: p, by rw [hp]; rfl⟩
      | ok f r1 =>
        rw [h1] at h
        simp only at h
        have hl := parse_ok n l f r1 h1
        cases h2 : parse n r1 with
        | err z =>
          rw [h2] at h; cases h
          obtain ⟨p, hp⟩ := parse_suf n r1 _ h2
          exact ⟨s :: (f.txt ++ p), by rw [hl, hp]; simp⟩
        | ok y r2 =>
          rw [h2] at h
          have := shut_err h
          subst this
          have hr := parse_ok n r1 y _ h2
          exact ⟨s :: (f.txt ++ y.txt), by rw [hl, hr]; simp⟩
    · rw [if_neg e1] at h
      split at h
      · cases h
      · split at h
        · cases h
        · split at h
          · cases h
          · cases h; exact ⟨[], rfl⟩
theorem w_code_from : ∀ (n k : Nat) (z p rest : List Nat) (Q : DK), z = p ++ rest → z.length ≤ 100000 → opens rest < n → n + 1 ≤ k → (∀ c r, parse n rest = .ok c r → Q (.tup [codeD c, left z r]) μ) → (∀ e, parse n rest = .err e → x "BadText" (["at"], [left z e]) μ) →
    WW cl k 4 [.str (tx z), .int (p.length : Nat)] μ x Q
  | 0, _, _, _, _, _, _, _, h, _, _, _ => absurd h (Nat.not_lt_zero _)
  | n + 1, k, z, p, rest, Q, hz, hl, hn, hk, ho, he => by
    obtain ⟨k, rfl⟩ : ∃ j, k = j + 2 := ⟨k - 2, by omega⟩
    have h3 := line_big
    rw [u_code_from, b_code_from]
    walk_at "d"
    rw [s_bci, s_op, s_cl]
    refine w_taken hz hl (fun s r e hm => ?_) fun hm => ?_
    · subst e
      have ea : atI (tx z).cps.toList ((p.length : Nat) : Int) = some s := atI_tx (by rw [hz]; simp)
      walk_at "d"
      rw [tx_beq]
      have hz1 : z = (p ++ [s]) ++ r := by rw [hz]; simp
      have ep : ((p.length : Nat) : Int) + 1 = (((p ++ [s]).length : Nat) : Int) := by simp
      by_cases h40 : s = 40
      · subst h40
        rw [if_neg (by simp)]
        rw [ep]
        rw [opens_cons, if_pos rfl] at hn
        refine w_code_from n (k + 1) z (p ++ [40]) r _ hz1 hl (by omega) (by omega) (fun f r1 e1 => ?_) (fun e e1 => he e (by simp only [parse, if_true, e1]))
        have hr := parse_ok _ _ _ _ e1
        have hz2 : z = (p ++ [40] ++ f.txt) ++ r1 := by rw [hz1, hr]; simp
        walk_at "d"
        rw [left_at hz2]
        have on1 : opens r1 < n := by rw [hr, opens_app] at hn; omega
        refine w_code_from n (k + 1) z _ r1 _ hz2 hl on1 (by omega) (fun y r2 e2 => ?_) (fun e e2 => he e (by simp only [parse, if_true, e1, e2]))
        have hr2 := parse_ok _ _ _ _ e2
        have hz3 : z = (p ++ [40] ++ f.txt ++ y.txt) ++ r2 := by rw [hz2, hr2]; simp
        walk_at "d"
        rw [left_at hz3]
        refine w_taken hz3 hl (fun s r3 e3 hm3 => ?_) fun hm3 => ?_
        · subst e3
          have es : s = 41 := by simpa using hm3
          subst es
          walk_at "d"
          have := ho (.use f y) r3 (by simp only [parse, if_true, e1, e2, shut])
          have hz4 : z = (p ++ [40] ++ f.txt ++ y.txt ++ [41]) ++ r3 := by rw [hz3]; simp
          have e5 : (((p ++ [40] ++ f.txt ++ y.txt ++ [41]).length : Nat) : Int) = (((p ++ [40] ++ f.txt ++ y.txt).length : Nat) : Int) + 1 := by simp; omega
          rw [left_at hz4, e5] at this
          exact this
        · have := he r2 (by
            simp only [parse, if_true, e1, e2]
            cases r2 with
            | nil => rfl
            | cons s r3 =>
              have := hm3 s r3 rfl
              simp only [shut]
              rw [if_neg (by simpa using this)])
          rw [left_at hz3] at this
          exact this
      · rw [if_pos (by simpa using h40)]
        refine ⟨by rw [tx_len]; omega, s, ea, ?_⟩
        have hs : s = 66 ∨ s = 67 ∨ s = 73 := by simpa [h40] using hm
        have step : ∀ c : Code, parse (n + 1) (s :: r) = .ok c r → codeD c = .str (tx [s]) → Q (.tup [.str ⟨#[s]⟩, .int ((p.length : Nat) + 1)]) μ := fun c e1 e2 => by
          have := ho c r e1
          rw [left_at hz1, e2, ← ep] at this
          exact this
        rcases hs with e | e | e
        · subst e; exact step .B rfl rfl
        · subst e; exact step .C rfl rfl
        · subst e; exact step .I rfl rfl
    · have : parse (n + 1) rest = .err rest := by
        cases rest with
        | nil => rfl
        | cons s r =>
          have := hm s r rfl
          simp only [List.mem_cons, List.not_mem_nil, or_false, not_or] at this
          simp only [parse, this.1, this.2.1, this.2.2.1, this.2.2.2, if_false]
      have := he rest this
      rw [left_at hz] at this
      exact this
end
end Once

namespace Once
open PySem PySem.Spec PyProof.Rows L2
variable {cl : Cs}
local macro_rules | `(tactic| walk_at "d") => `(tactic| simp only [dSeq, dNext, dRet, dRetN, dDrop, dIf, dB, dOp, dVar, dC, dNil, dCons, dTup, dLst, dCall, dSet, dUnp, gdTup_t, gdCons_c, gdName, gdNil_n, dAnd, dOr, dNot, dAndV, dOrV, dNotV, dIfE, dIsi, dIsN, dNotN, dB1, dCut, dNoPart, dPart, dNeg, bodyF, startD, bodies, dRaise1,
  List.map_cons, List.map_nil, List.length_cons, List.length_nil, Nat.reduceAdd, Nat.reduceSub, List.replicate_succ, List.replicate_zero, List.cons_append, List.nil_append, List.append_nil, Nat.zero_add,
  List.getElem?_cons_zero, List.getElem?_cons_succ, Option.some.injEq, exists_eq_left', exists_eq_left, List.set_cons_zero, List.set_cons_succ, D.bl.injEq, D.int.injEq, D.str.injEq, D.tup.injEq, List.cons.injEq, and_true, true_and, Bool.not_true, Bool.not_false, if_true, if_false, Bool.false_eq_true, reduceCtorEq,
  gAdd_ii, gAdd_ss, gAdd_ll, gSub_ii, gMul_ii, gDiv_ii, gMod_ii, gPow_ii, gInt0_ii, gLt_ii, gLe_ii, gGt_ii, gGe_ii, gEq_ii, gEq_ss, gEq_bb, gNe_ii, gNe_ss, gNe_bb, gIx_t, gIx_s, gIx_l, atI_0, atI_1, atI_2, atI_3, gLen_s, gLen_t, gLen_l, gCut_l, gCut_s, gAbs_i, gIntOf_i, gIn_s, gNotIn_s])
theorem deep_opens : ∀ c : Code, c.deep ≤ opens c.txt
  | .B => Nat.zero_le _
  | .C => Nat.zero_le _
  | .I => Nat.zero_le _
  | .use f x => by
    have h1 := deep_opens f
    have h2 := deep_opens x
    simp only [Code.deep, Code.txt, opens_cons, opens_app, if_true]
    omega
def bad (i : Nat) : D := .tup [.str "bad", .int (i : Nat)]
def codeA (c : Code) : D := .tup [.str "code", codeD c]
def endA (z : List Nat) (c : Code) : List Nat → D
  | [] => if c.size ≤ 120 then codeA c else bad z.length
  | s :: r => bad (z.length - (s :: r).length)
def ansP (z : List Nat) : PR → D
  | .err e => bad (z.length - e.length)
  | .ok c r => endA z c r
def ans (z : List Nat) : D := ansP z (parse (opens z + 1) z)
section
variable {k : Nat} {μ : Mu} {x : DXF} {Q : DK}
theorem w_code_of_text {z : List Nat} (hl : z.length ≤ 1000) (hk : opens z + 6 ≤ k) (ho : ∀ c, ans z = codeA c → Q (codeD c) μ) (he : ∀ i : Nat, ans z = bad i → x "BadText" (["at"], [.int (i : Nat)]) μ) :
    WW cl k 5 [.str (tx z)] μ x Q := by
  obtain ⟨k, rfl⟩ : ∃ j, k = j + 1 := ⟨k - 1, by omega⟩
  have h3 := line_big
  rw [u_code_of_text, b_code_of_text]
  walk_at "d"
  refine w_code_from (opens z + 1) k z [] z _ rfl (by omega) (by omega) (by omega) (fun c r e => ?_) fun e q => ?_
  · have hz := parse_ok _ _ _ _ e
    walk_at "d"
    rw [left_at hz]
    have e1 : ans z = endA z c r := by unfold ans; rw [e]; rfl
    have l0 : z.length = c.txt.length + r.length := by rw [hz]; simp
    walk_at "d"
    refine ⟨by rw [tx_len]; omega, ?_⟩
    cases r with
    | cons s r =>
      simp only [List.length_cons] at l0
      rw [if_pos (by rw [tx_len, decide_eq_true_eq]; omega)]
      have : z.length - (s :: r).length = c.txt.length := by simp only [List.length_cons]; omega
      have := he _ e1
      rw [show z.length - (s :: r).length = c.txt.length by simp only [List.length_cons]; omega] at this
      exact this
    | nil =>
      simp only [List.length_nil] at l0
      rw [if_neg (by rw [tx_len, decide_eq_true_eq]; omega)]
      have hd := deep_opens c
      have : opens z = opens c.txt := by rw [hz, List.append_nil]
      refine w_count c _ _ (by omega) ?_
      walk_at "d"
      by_cases hs : c.size ≤ 120
      · rw [if_neg (by rw [decide_eq_true_eq]; omega)]
        exact ho c (by rw [e1]; exact if_pos hs)
      · rw [if_pos (by rw [decide_eq_true_eq]; omega)]
        refine ⟨by rw [tx_len]; omega, ?_⟩
        rw [tx_len]
        exact he _ (by rw [e1]; exact if_neg hs)
  · exact he _ (by unfold ans; rw [q]; rfl)
/-! ### the feed -/
def FeedAt (μ : Mu) (a : Addr) : Prop := ∃ (ns : List Int) (i big seed : Int), μ a = some (.lst [.lst (ns.map .int), .int i, .int big, .int seed]) ∧ 0 ≤ i ∧ 0 ≤ big ∧ 0 ≤ seed ∧ seed < 2147483647
theorem w_feed (ns : List Int) (hq : ∀ a, μ a = none → Q (.mref a) (put μ a (.lst [.lst (ns.map .int), .int 0, .int 0, .int 1]))) : WW cl (k + 1) 14 [.scr ns] μ x Q := by
  rw [u__law_feed, b__law_feed]
  walk_at "d"
  simp only [dNew]
  walk_at "d"
  refine ⟨ns.map .int, ?_, fun a ha => hq a ha⟩
  simp [itemsOf, seqOf]

theorem FeedAt.put_other {a b : Addr} {m : MO} (h : FeedAt μ a) (n : a ≠ b) : FeedAt (put μ b m) a := by
  obtain ⟨ns, i, big, seed, e, r⟩ := h
  exact ⟨ns, i, big, seed, by rw [put_ne n]; exact e, r⟩
/-- all but the feed as it was -/
def But (a : Addr) (μ μ' : Mu) : Prop := ∀ b, b ≠ a → μ' b = μ b
def drawTail : DS :=
      (dSeq (dIf (dB (dOp gGt (dOp gIx (dVar 0) (dC (.int 2))) (dC (.int 0)))) (dSeq (dSet 4 (dOp gMod (dB1 gIntOf (dCons (dOp gIx (dVar 0) (dC (.int 2))) dNil)) (dVar 1)))
        (dSeq (dSetAt (dOp gDiv (dOp gIx (dVar 0) (dC (.int 2))) (dVar 1)) (dVar 0) (dC (.int 2)))
        (dRet (dVar 4)))) dNext)
        (dSeq (dSetAt (dOp gMod (dB1 gIntOf (dCons (dOp gAdd (dOp gMul (dOp gIx (dVar 0) (dC (.int 3))) (dC (.int 16807))) (dC (.int 12345))) dNil)) (dC (.int 2147483647))) (dVar 0) (dC (.int 3)))
        (dSeq (dSet 2 (dOp gMod (dB1 gIntOf (dCons (dOp gAdd (dOp gMul (dOp gIx (dVar 0) (dC (.int 3))) (dOp gIx (dVar 0) (dC (.int 3)))) (dOp gIx (dVar 0) (dC (.int 3)))) dNil)) (dC (.int 2147483629))))
        (dRet (dOp gMod (dOp gDiv (dVar 2) (dC (.int 11))) (dVar 1))))))
def drawHead : DS :=
  (dIf (dAnd (dB (dOp gEq (dOp gIx (dVar 0) (dC (.int 2))) (dC (.int 0)))) (dB (dOp gLt (dOp gIx (dVar 0) (dC (.int 1))) (dB1 gLen (dCons (dOp gIx (dVar 0) (dC (.int 0))) dNil))))) (dSeq (dSet 3 (dB1 gAbs (dCons (dB1 gIntOf (dCons (dOp gIx (dOp gIx (dVar 0) (dC (.int 0))) (dOp gIx (dVar 0) (dC (.int 1)))) dNil)) dNil)))
      (dSeq (dAugAt (gInt0 fun i j => .int (i + j)) (dVar 0) (dC (.int 1)) (dC (.int 1)))
      (dIf (dB (dOp gGe (dVar 3) (dOp gPow (dC (.int 10)) (dC (.int 18))))) (dSetAt (dVar 3) (dVar 0) (dC (.int 2))) (dSetAt (dOp gMod (dB1 gIntOf (dCons (dOp gAdd (dOp gAdd (dOp gMul (dOp gIx (dVar 0) (dC (.int 3))) (dC (.int 48271))) (dOp gMul (dVar 3) (dC (.int 69621)))) (dOp gIx (dVar 0) (dC (.int 1)))) dNil)) (dC (.int 2147483647))) (dVar 0) (dC (.int 3)))))) dNext)
theorem draw_is (W : Nat → DF) : b__law_draw cl W = dSeq drawHead drawTail := rfl
theorem w_draw {a : Addr} {m : Int} (hf : FeedAt μ a) (h0 : 0 < m) (h1 : m < 1073741824) (hq : ∀ (r : Int) μ', 0 ≤ r → r < m → FeedAt μ' a → But a μ μ' → Q (.int r) μ') : WW cl (k + 1) 15 [.mref a, .int m] μ x Q := by
  rw [u__law_draw, draw_is]
  -- the second half, from any state
  have tail : ∀ (ns : List Int) (i big seed : Int) (o2 o3 o4 : Option D), 0 ≤ i → 0 ≤ big → 0 ≤ seed → seed < 2147483647 → ∀ μ2, But a μ μ2 → μ2 a = some (.lst [.lst (ns.map .int), .int i, .int big, .int seed]) →
      drawTail { nx := fun _ μ' => Q .non μ', rt := Q, bk := fun _ _ => False, ct := fun _ _ => False, ex := fun _ c fs μ' => x c fs μ' } [some (.mref a), some (.int m), o2, o3, o4] μ2 := by
    intro ns i big seed o2 o3 o4 hi hb hs1 hs2 μ2 hbut e
    rw [drawTail]
    walk_at "d"
    rw [gIx_m e]
    walk_at "d"
    by_cases hp : 0 < big
    · rw [if_pos (by simpa using hp)]
      rw [gIx_m e]
      walk_at "d"
      refine ⟨h0, ?_⟩
      simp only [dSetAt]
      walk_at "d"
      rw [gIx_m e]
      walk_at "d"
      refine ⟨⟨h0, h1⟩, a, _, 2, 2, rfl, rfl, e, rfl, ?_⟩
      walk_at "d"
      refine hq _ _ (Int.emod_nonneg _ (by omega)) (Int.emod_lt_of_pos _ h0) ⟨ns, i, big / m, seed, put_same, hi, Int.ediv_nonneg hb (by omega), hs1, hs2⟩ fun b hb => ?_
      rw [put_ne hb]
      exact hbut b hb
    · rw [if_neg (by simpa using hp)]
      simp only [dSetAt]
      walk_at "d"
      rw [gIx_m e]
      walk_at "d"
      refine ⟨.inl ⟨by omega, by omega⟩, by omega, a, _, 3, 3, rfl, rfl, e, rfl, ?_⟩
      generalize hs : (seed * 16807 + 12345) % 2147483647 = sd
      have s1 : 0 ≤ sd := by omega
      have s2 : sd < 2147483647 := by omega
      have e2 : put μ2 a (.lst (([D.lst (ns.map .int), .int i, .int big, .int seed]).set 3 (.int sd))) a = some (.lst [.lst (ns.map .int), .int i, .int big, .int sd]) := put_same
      generalize hm : put μ2 a (.lst (([D.lst (ns.map .int), .int i, .int big, .int seed]).set 3 (.int sd))) = μ3 at e2 ⊢
      try walk_at "d"
      rw [gIx_m e2]
      walk_at "d"
      rw [gIx_m e2]
      walk_at "d"
      refine ⟨.inl ⟨by omega, by omega⟩, ?_⟩
      rw [gIx_m e2]
      walk_at "d"
      refine ⟨by omega, ⟨by omega, by omega⟩, h0, ?_⟩
      refine hq _ _ (Int.emod_nonneg _ (by omega)) (Int.emod_lt_of_pos _ h0) ⟨ns, i, big, sd, e2, hi, hb, s1, s2⟩ fun b hb => ?_
      rw [← hm, put_ne hb]
      exact hbut b hb
  obtain ⟨ns, i, big, seed, e, hi, hb, hs1, hs2⟩ := id hf
  rw [bodyF, startD]
  rw [dSeq, drawHead]
  walk_at "d"
  rw [gIx_m e]
  walk_at "d"
  by_cases hz : big = 0
  · subst hz
    simp only [beq_self_eq_true, if_true]
    rw [gIx_m e]
    walk_at "d"
    rw [gIx_m e]
    walk_at "d"
    by_cases hl : i < ((ns.map D.int).length : Nat)
    · rw [if_pos (by simpa using hl)]
      rw [gIx_m e]
      walk_at "d"
      rw [gIx_m e]
      walk_at "d"
      obtain ⟨n, rfl⟩ : ∃ n : Nat, i = n := ⟨i.toNat, by omega⟩
      rw [List.length_map] at hl
      have hn : n < ns.length := by omega
      refine ⟨.int ns[n], atI_nat (by rw [List.getElem?_map, List.getElem?_eq_getElem hn]; rfl), ?_⟩
      walk_at "d"
      generalize hc : (if ns[n] < 0 then -ns[n] else ns[n]) = cell
      have c0 : 0 ≤ cell := by rw [← hc]; split <;> omega
      simp only [dAugAt, dSetAt]
      walk_at "d"
      refine ⟨a, _, 1, _, rfl, rfl, e, by omega, rfl, ?_⟩
      walk_at "d"
      refine ⟨_, e, by simp, ?_⟩
      have e2 : put μ a (.lst (([D.lst (ns.map .int), .int (n : Int), .int 0, .int seed]).set 1 (.int ((n : Int) + 1)))) a = some (.lst [.lst (ns.map .int), .int ((n : Int) + 1), .int 0, .int seed]) := put_same
      have b2 : But a μ (put μ a (.lst (([D.lst (ns.map .int), .int (n : Int), .int 0, .int seed]).set 1 (.int ((n : Int) + 1))))) := fun b hb => put_ne hb
      generalize hm : put μ a (.lst (([D.lst (ns.map .int), .int (n : Int), .int 0, .int seed]).set 1 (.int ((n : Int) + 1)))) = μ3 at e2 b2 ⊢
      try walk_at "d"
      refine ⟨⟨by omega, by omega, by omega⟩, ?_⟩
      by_cases hg : (10 : Int) ^ (18 : Int).toNat ≤ cell
      · rw [if_pos (by simpa using hg)]
        simp only [dSetAt]
        walk_at "d"
        refine ⟨a, _, 2, 2, rfl, rfl, e2, rfl, ?_⟩
        exact tail ns _ cell seed _ _ _ (by omega) c0 hs1 hs2 _ (fun b hb => by rw [put_ne hb]; exact b2 b hb) put_same
      · rw [if_neg (by simpa using hg)]
        simp only [dSetAt]
        walk_at "d"
        rw [gIx_m e2]
        walk_at "d"
        refine ⟨.inl ⟨by omega, by omega⟩, .inr ⟨by omega, by omega⟩, ?_⟩
        rw [gIx_m e2]
        walk_at "d"
        refine ⟨by omega, a, _, 3, 3, rfl, rfl, e2, rfl, ?_⟩
        exact tail ns _ 0 _ _ _ _ (by omega) (by omega) (by omega) (by omega) _ (fun b hb => by rw [put_ne hb]; exact b2 b hb) put_same
    · rw [if_neg (by simpa using hl)]
      exact tail ns i 0 seed _ _ _ hi (by omega) hs1 hs2 μ (fun _ _ => rfl) e
  · have : (big == 0) = false := by simpa using hz
    simp only [this, Bool.false_eq_true, if_false]
    exact tail ns i big seed _ _ _ hi hb hs1 hs2 μ (fun _ _ => rfl) e
end
end Once

namespace Once
open PySem PySem.Spec PyProof.Rows L2
variable {cl : Cs}
local macro_rules | `(tactic| walk_at "d") => `(tactic| simp only [dSeq, dNext, dRet, dRetN, dDrop, dIf, dB, dOp, dVar, dC, dNil, dCons, dTup, dLst, dCall, dSet, dUnp, gdTup_t, gdCons_c, gdName, gdNil_n, dAnd, dOr, dNot, dAndV, dOrV, dNotV, dIfE, dIsi, dIsN, dNotN, dB1, dCut, dNoPart, dPart, dNeg, bodyF, startD, bodies, dRaise1,
  List.map_cons, List.map_nil, List.length_cons, List.length_nil, Nat.reduceAdd, Nat.reduceSub, List.replicate_succ, List.replicate_zero, List.cons_append, List.nil_append, List.append_nil, Nat.zero_add,
  List.getElem?_cons_zero, List.getElem?_cons_succ, Option.some.injEq, exists_eq_left', exists_eq_left, List.set_cons_zero, List.set_cons_succ, D.bl.injEq, D.int.injEq, D.str.injEq, D.tup.injEq, List.cons.injEq, and_true, true_and, Bool.not_true, Bool.not_false, if_true, if_false, Bool.false_eq_true, reduceCtorEq,
  gAdd_ii, gAdd_ss, gAdd_ll, gSub_ii, gMul_ii, gDiv_ii, gMod_ii, gPow_ii, gInt0_ii, gLt_ii, gLe_ii, gGt_ii, gGe_ii, gEq_ii, gEq_ss, gEq_bb, gNe_ii, gNe_ss, gNe_bb, gIx_t, gIx_s, gIx_l, atI_0, atI_1, atI_2, atI_3, gLen_s, gLen_t, gLen_l, gCut_l, gCut_s, gAbs_i, gIntOf_i, gIn_s, gNotIn_s])


theorem cutD_pre {xs : List D} {n : Nat} : cutD xs none (some (n : Int)) = xs.take n := by
  simp only [cutD, HT.sIx]
  rw [if_neg (by omega)]
  simp only [Int.toNat_natCast, List.drop_zero, Nat.sub_zero]
  rcases Nat.le_total n xs.length with h | h
  · rw [Nat.min_eq_left h]
  · rw [Nat.min_eq_right h, List.take_of_length_le (Nat.le_refl _), List.take_of_length_le h]
theorem cutD_suf {xs : List D} {n : Nat} : cutD xs (some (n : Int)) none = xs.drop n := by
  simp only [cutD, HT.sIx]
  rw [if_neg (by omega)]
  simp only [Int.toNat_natCast]
  rw [List.take_of_length_le (by rw [List.length_drop]; omega)]
  rcases Nat.le_total n xs.length with h | h
  · rw [Nat.min_eq_left h]
  · rw [Nat.min_eq_right h, List.drop_of_length_le (Nat.le_refl _), List.drop_of_length_le h]
theorem cutS_pre {z : List Nat} {n : Nat} : cutS (tx z) none (some (n : Int)) = tx (z.take n) := by
  have e : (tx z).length = z.length := tx_len z
  simp only [cutS, HT.sIx, e, tx_cps]
  rw [if_neg (by omega)]
  simp only [Int.toNat_natCast, List.drop_zero, Nat.sub_zero]
  rcases Nat.le_total n z.length with h | h
  · rw [Nat.min_eq_left h]; rfl
  · rw [Nat.min_eq_right h, List.take_of_length_le (Nat.le_refl _), List.take_of_length_le h]; rfl
theorem cutS_suf {z : List Nat} {n : Nat} : cutS (tx z) (some (n : Int)) none = tx (z.drop n) := by
  have e : (tx z).length = z.length := tx_len z
  simp only [cutS, HT.sIx, e, tx_cps]
  rw [if_neg (by omega)]
  simp only [Int.toNat_natCast]
  rw [List.take_of_length_le (by rw [List.length_drop]; omega)]
  rcases Nat.le_total n z.length with h | h
  · rw [Nat.min_eq_left h]; rfl
  · rw [Nat.min_eq_right h, List.drop_of_length_le (Nat.le_refl _), List.drop_of_length_le h]; rfl
theorem put_cut {μ : Mu} {a : Addr} {m : MO} (h : μ a = some m) : put (cut μ a) a m = μ := by
  funext b; unfold put cut
  by_cases e : b = a
  · subst e; rw [if_pos rfl, h]
  · rw [if_neg e, if_neg e]
section
variable {k : Nat} {μ : Mu} {x : DXF} {Q : DK}
theorem FeedAt.ne {a b : Addr} (h : FeedAt μ a) (hb : μ b = none) : a ≠ b := by
  obtain ⟨ns, i, big, seed, e, _⟩ := h
  intro z; rw [z, hb] at e; cases e
/-- a list of drawn things -/
theorem w_compDraw {a b : Addr} {i : Nat} {te : DE} {δ : Ds} (P : D → Prop)
    (hte : ∀ (d : D) (μ : Mu) (kk : DK), FeedAt μ a → (∀ y μ', P y → FeedAt μ' a → But a μ μ' → kk y μ') → te (δ.set i (some d)) μ noX kk) :
    ∀ (items acc : List D) (μ : Mu) (kk : List D → Mu → Prop), FeedAt μ a → μ b = none → acc.length + items.length ≤ 100000 →
      (∀ ys μ', ys.length = items.length → (∀ y ∈ ys, P y) → FeedAt μ' a → kk (acc ++ ys) μ') → compD i dYes te δ (fun _ => True) b kk items acc μ
  | [], acc, μ, kk, hf, hb, hl, h => ⟨trivial, by simpa using h [] μ rfl (by simp) hf⟩
  | d :: r, acc, μ, kk, hf, hb, hl, h => by
    have h3 := line_big
    simp only [List.length_cons] at hl
    have nb := hf.ne hb
    refine ⟨trivial, ?_⟩
    simp only [dYes, if_true]
    refine hte d _ _ (hf.put_other nb) fun y μ' hy hf' hbut => ?_
    have eb : μ' b = some (.lst acc) := by rw [hbut b nb.symm, put_same]
    refine ⟨cut μ' b, (put_cut eb).symm, cut_same, by omega, ?_⟩
    have hf2 : FeedAt (cut μ' b) a := by
      obtain ⟨ns, i, big, seed, e, r⟩ := hf'
      exact ⟨ns, i, big, seed, by rw [cut_ne nb]; exact e, r⟩
    refine w_compDraw P hte r _ _ kk hf2 cut_same (by simp only [List.length_append, List.length_cons, List.length_nil]; omega) fun ys μ2 e1 e2 e3 => ?_
    rw [List.append_assoc]
    refine h _ μ2 (by simp [e1]) (fun z m => ?_) e3
    rcases List.mem_cons.mp (by simpa using m) with m | m
    · rw [m]; exact hy
    · exact e2 z m
def sizes (cs : List Code) : Nat := (cs.map Code.size).sum
theorem sizes_app (a b : List Code) : sizes (a ++ b) = sizes a + sizes b := by simp [sizes]
theorem sizes_nil : sizes [] = 0 := rfl
theorem sizes_cons (a : Code) (b : List Code) : sizes (a :: b) = a.size + sizes b := by simp [sizes]
theorem cs_among {ys : List D} (h : ∀ y ∈ ys, ∃ c : Code, y = codeD c ∧ c.size = 1) : ∃ cs : List Code, ys = cs.map codeD ∧ sizes cs = ys.length := by
  induction ys with
  | nil => exact ⟨[], rfl, rfl⟩
  | cons y ys ih =>
    obtain ⟨c, e1, e2⟩ := h y List.mem_cons_self
    obtain ⟨cs, e3, e4⟩ := ih fun z m => h z (List.mem_cons_of_mem _ m)
    exact ⟨c :: cs, by rw [e1, e3]; rfl, by rw [sizes_cons, e2, e4, List.length_cons]; omega⟩
def scStep (W : Nat → DF) : DS := (dIf (dB (dOp gGt (dB1 gLen (dCons (dVar 2) dNil)) (dC (.int 1)))) (dSeq (dSet 5 (dCall (W 15) (dCons (dVar 0) (dCons (dOp gSub (dB1 gLen (dCons (dVar 2) dNil)) (dC (.int 1))) dNil))))
      (dSeq (dIf (dB (dOp gEq (dCall (W 15) (dCons (dVar 0) (dCons (dC (.int 2)) dNil))) (dC (.int 0)))) (dSet 5 (dC (.int 0))) dNext)
      (dSet 2 (dOp gAdd (dOp gAdd (dCut (dVar 2) dNoPart (dPart (dVar 5))) (dLst (dCons (dTup (dCons (dOp gIx (dVar 2) (dVar 5)) (dCons (dOp gIx (dVar 2) (dOp gAdd (dVar 5) (dC (.int 1)))) dNil))) dNil))) (dCut (dVar 2) (dPart (dOp gAdd (dVar 5) (dC (.int 2)))) dNoPart))))) dNext)
theorem sc_is (W : Nat → DF) : b__law_some_code cl W = (dSeq (dSet 2 (dComp (dRng1 (dCons (dOp gAdd (dC (.int 1)) (dCall (W 15) (dCons (dVar 0) (dCons (dVar 1) dNil)))) dNil)) 4 dYes (dOp gIx (dLst (dCons (dC (.str "B")) (dCons (dC (.str "C")) (dCons (dC (.str "I")) (dCons (dC (.str "B")) dNil))))) (dCall (W 15) (dCons (dVar 0) (dCons (dC (.int 4)) dNil))))))
      (dSeq (dFor (dRng1 (dCons (dVar 1) dNil)) (gdName 3) (scStep W))
      (dRet (dOp gIx (dVar 2) (dC (.int 0)))))) := rfl
theorem w_scStep {a : Addr} {E : DEnds} {o1 o3 o4 o5 : Option D} {cs : List Code} (hf : FeedAt μ a) (h0 : cs ≠ []) (hs : sizes cs ≤ 1000)
    (h : ∀ cs' μ' o5', cs' ≠ [] → sizes cs' = sizes cs → FeedAt μ' a → E.nx [some (.mref a), o1, some (.lst (cs'.map codeD)), o3, o4, o5'] μ') :
    scStep (WW cl (k + 1)) E [some (.mref a), o1, some (.lst (cs.map codeD)), o3, o4, o5] μ := by
  have h3 := line_big
  have hlen : ∀ cs : List Code, cs.length ≤ sizes cs := fun cs => by
    induction cs with
    | nil => exact Nat.zero_le _
    | cons c cs ih => have := c.pos; rw [sizes_cons, List.length_cons]; omega
  have hl := hlen cs
  rw [scStep]
  walk_at "d"
  by_cases h1 : 1 < cs.length
  · rw [if_pos (by rw [List.length_map, decide_eq_true_eq]; omega)]
    refine w_draw hf (by rw [List.length_map]; omega) (by rw [List.length_map]; omega) fun r μ1 r0 r1 hf1 _ => ?_
    rw [List.length_map] at r1
    walk_at "d"
    have core : ∀ (n : Nat) (μ2 : Mu), n + 1 < cs.length → FeedAt μ2 a → (((cs.map codeD).take n).length + 1 ≤ sizeLine) ∧ True := fun n μ2 _ _ => ⟨by rw [List.length_take, List.length_map]; omega, trivial⟩
    have fin : ∀ (n : Nat) (μ2 : Mu), n + 1 < cs.length → FeedAt μ2 a → dSet 2 (dOp gAdd (dOp gAdd (dCut (dVar 2) dNoPart (dPart (dVar 5))) (dLst (dCons (dTup (dCons (dOp gIx (dVar 2) (dVar 5)) (dCons (dOp gIx (dVar 2) (dOp gAdd (dVar 5) (dC (.int 1)))) dNil))) dNil))) (dCut (dVar 2) (dPart (dOp gAdd (dVar 5) (dC (.int 2)))) dNoPart)) E [some (.mref a), o1, some (.lst (cs.map codeD)), o3, o4, some (.int (n : Nat))] μ2 := fun n μ2 hn hf2 => by
      walk_at "d"
      have hn1 : n < cs.length := by omega
      refine ⟨codeD cs[n], atI_nat (by rw [List.getElem?_map, List.getElem?_eq_getElem hn1]; rfl), codeD cs[n + 1], ?_, ?_⟩
      · rw [show ((n : Nat) : Int) + 1 = ((n + 1 : Nat) : Int) by omega]
        exact atI_nat (by rw [List.getElem?_map, List.getElem?_eq_getElem hn]; rfl)
      · rw [cutD_pre, show ((n : Nat) : Int) + 2 = ((n + 2 : Nat) : Int) by omega, cutD_suf]
        simp only [List.length_take, List.length_map, List.length_cons, List.length_nil, List.length_append, List.length_drop]
        refine ⟨by omega, by omega, ?_⟩
        have ec : cs = cs.take n ++ cs[n] :: cs[n + 1] :: cs.drop (n + 2) := by
          rw [← List.drop_eq_getElem_cons hn, ← List.drop_eq_getElem_cons hn1, List.take_append_drop]
        have := h (cs.take n ++ [.use cs[n] cs[n + 1]] ++ cs.drop (n + 2)) μ2 (some (.int (n : Nat))) (by simp) (by
          rw [congrArg sizes ec]
          simp only [sizes_app, sizes_cons, Code.size, sizes_nil]
          omega) hf2
        simpa [codeD] using this
    have pick : ∀ (r2 : Int) (μ2 : Mu), FeedAt μ2 a → (if (r2 == 0) = true then dSet 2 (dOp gAdd (dOp gAdd (dCut (dVar 2) dNoPart (dPart (dVar 5))) (dLst (dCons (dTup (dCons (dOp gIx (dVar 2) (dVar 5)) (dCons (dOp gIx (dVar 2) (dOp gAdd (dVar 5) (dC (.int 1)))) dNil))) dNil))) (dCut (dVar 2) (dPart (dOp gAdd (dVar 5) (dC (.int 2)))) dNoPart)) E [some (.mref a), o1, some (.lst (cs.map codeD)), o3, o4, some (.int 0)] μ2
        else dSet 2 (dOp gAdd (dOp gAdd (dCut (dVar 2) dNoPart (dPart (dVar 5))) (dLst (dCons (dTup (dCons (dOp gIx (dVar 2) (dVar 5)) (dCons (dOp gIx (dVar 2) (dOp gAdd (dVar 5) (dC (.int 1)))) dNil))) dNil))) (dCut (dVar 2) (dPart (dOp gAdd (dVar 5) (dC (.int 2)))) dNoPart)) E [some (.mref a), o1, some (.lst (cs.map codeD)), o3, o4, some (.int r)] μ2) := fun r2 μ2 hf2 => by
      by_cases hr : r2 = 0
      · rw [if_pos (by simpa using hr)]
        exact fin 0 μ2 (by omega) hf2
      · rw [if_neg (by simpa using hr)]
        obtain ⟨n, rfl⟩ : ∃ n : Nat, r = n := ⟨r.toNat, by omega⟩
        exact fin n μ2 (by omega) hf2
    refine w_draw hf1 (by omega) (by omega) fun r2 μ2 _ _ hf2 _ => ?_
    have := pick r2 μ2 hf2
    simp only [dSet, dOp, dCut, dNoPart, dPart, dVar, dLst, dTup, dCons, dNil, dC, List.getElem?_cons_zero, List.getElem?_cons_succ, Option.some.injEq, exists_eq_left', D.int.injEq] at this
    walk_at "d"
    simpa only [List.getElem?_cons_zero, List.getElem?_cons_succ, Option.some.injEq, exists_eq_left', D.int.injEq, gAdd_ii, gIx_l, gCut_l, gAdd_ll, List.length_cons, List.length_nil, List.set_cons_succ, List.set_cons_zero] using this
  · rw [if_neg (by rw [List.length_map, decide_eq_true_eq]; omega)]
    exact h cs μ o5 h0 rfl hf
end
end Once

namespace Once
open PySem PySem.Spec PyProof.Rows L2
variable {cl : Cs}
local macro_rules | `(tactic| walk_at "d") => `(tactic| simp only [dSeq, dNext, dRet, dRetN, dDrop, dIf, dB, dOp, dVar, dC, dNil, dCons, dTup, dLst, dCall, dSet, dUnp, gdTup_t, gdCons_c, gdName, gdNil_n, dAnd, dOr, dNot, dAndV, dOrV, dNotV, dIfE, dIsi, dIsN, dNotN, dB1, dCut, dNoPart, dPart, dNeg, bodyF, startD, bodies, dRaise1,
  List.map_cons, List.map_nil, List.length_cons, List.length_nil, Nat.reduceAdd, Nat.reduceSub, List.replicate_succ, List.replicate_zero, List.cons_append, List.nil_append, List.append_nil, Nat.zero_add,
  List.getElem?_cons_zero, List.getElem?_cons_succ, Option.some.injEq, exists_eq_left', exists_eq_left, List.set_cons_zero, List.set_cons_succ, D.bl.injEq, D.int.injEq, D.str.injEq, D.tup.injEq, List.cons.injEq, and_true, true_and, Bool.not_true, Bool.not_false, if_true, if_false, Bool.false_eq_true, reduceCtorEq,
  gAdd_ii, gAdd_ss, gAdd_ll, gSub_ii, gMul_ii, gDiv_ii, gMod_ii, gPow_ii, gInt0_ii, gLt_ii, gLe_ii, gGt_ii, gGe_ii, gEq_ii, gEq_ss, gEq_bb, gNe_ii, gNe_ss, gNe_bb, gIx_t, gIx_s, gIx_l, atI_0, atI_1, atI_2, atI_3, gLen_s, gLen_t, gLen_l, gCut_l, gCut_s, gAbs_i, gIntOf_i, gIn_s, gNotIn_s])


theorem at4 {α : Type} {x0 x1 x2 x3 : α} {r : Int} (h0 : 0 ≤ r) (h1 : r < 4) : ∃ y, atI [x0, x1, x2, x3] r = some y ∧ (y = x0 ∨ y = x1 ∨ y = x2 ∨ y = x3) := by
  have : r = 0 ∨ r = 1 ∨ r = 2 ∨ r = 3 := by omega
  rcases this with e | e | e | e
  · subst e; exact ⟨x0, atI_0, .inl rfl⟩
  · subst e; exact ⟨x1, atI_1, .inr (.inl rfl)⟩
  · subst e; exact ⟨x2, atI_2, .inr (.inr (.inl rfl))⟩
  · subst e; exact ⟨x3, atI_3, .inr (.inr (.inr rfl))⟩
theorem at3 {α : Type} {x0 x1 x2 : α} {r : Int} (h0 : 0 ≤ r) (h1 : r < 3) : ∃ y, atI [x0, x1, x2] r = some y ∧ (y = x0 ∨ y = x1 ∨ y = x2) := by
  have : r = 0 ∨ r = 1 ∨ r = 2 := by omega
  rcases this with e | e | e
  · subst e; exact ⟨x0, atI_0, .inl rfl⟩
  · subst e; exact ⟨x1, atI_1, .inr (.inl rfl)⟩
  · subst e; exact ⟨x2, atI_2, .inr (.inr rfl)⟩
theorem at2 {α : Type} {x0 x1 : α} {r : Int} (h0 : 0 ≤ r) (h1 : r < 2) : ∃ y, atI [x0, x1] r = some y ∧ (y = x0 ∨ y = x1) := by
  have : r = 0 ∨ r = 1 := by omega
  rcases this with e | e
  · subst e; exact ⟨x0, atI_0, .inl rfl⟩
  · subst e; exact ⟨x1, atI_1, .inr rfl⟩
section
variable {k : Nat} {μ : Mu} {x : DXF} {Q : DK}
theorem w_scLoop {a : Addr} {E : DEnds} {o1 : Option D} (n : Nat) (hn : n ≤ 1000) (h : ∀ cs μ' o3 o4 o5, cs ≠ [] → sizes cs = n → FeedAt μ' a → E.nx [some (.mref a), o1, some (.lst (cs.map codeD)), o3, o4, o5] μ') :
    ∀ (items : List D) (cs : List Code) (μ : Mu) (o3 o4 o5 : Option D), cs ≠ [] → sizes cs = n → FeedAt μ a → forD (gdName 3) (scStep (WW cl (k + 1))) (fun _ => True) E items [some (.mref a), o1, some (.lst (cs.map codeD)), o3, o4, o5] μ
  | [], cs, μ, o3, o4, o5, h0, hs, hf => ⟨trivial, h cs μ o3 o4 o5 h0 hs hf⟩
  | d :: r, cs, μ, o3, o4, o5, h0, hs, hf => by
    refine ⟨trivial, ?_⟩
    refine w_scStep hf h0 (by omega) fun cs' μ' o5' h0' hs' hf' => ?_
    exact w_scLoop n hn h r cs' μ' _ _ _ h0' (by omega) hf'
theorem w_some_code {a : Addr} (hf : FeedAt μ a) (hq : ∀ c μ', Code.size c ≤ 12 → FeedAt μ' a → Q (codeD c) μ') : WW cl (k + 2) 17 [.mref a, .int 12] μ x Q := by
  rw [u__law_some_code, sc_is]
  walk_at "d"
  simp only [dComp, dFor, dRng1]
  walk_at "d"
  refine w_draw hf (by omega) (by omega) fun r μ1 r0 r1 hf1 _ => ?_
  try walk_at "d"
  refine ⟨by omega, by omega, fun b hb => ?_⟩
  refine w_compDraw (a := a) (fun y => ∃ c : Code, y = codeD c ∧ c.size = 1) (fun d μ2 kk hf2 hk => ?_) _ [] μ1 _ hf1 hb (by simp [rngD]; omega) fun ys μ2 e1 e2 hf2 => ?_
  · walk_at "d"
    refine w_draw hf2 (by omega) (by omega) fun r μ3 r0 r1 hf3 hbut => ?_
    obtain ⟨y, ey, hy⟩ := at4 (x0 := D.str "B") (x1 := D.str "C") (x2 := D.str "I") (x3 := D.str "B") r0 r1
    walk_at "d"
    refine ⟨y, ey, hk y μ3 ?_ hf3 hbut⟩
    rcases hy with e | e | e | e
    · exact ⟨.B, e, rfl⟩
    · exact ⟨.C, e, rfl⟩
    · exact ⟨.I, e, rfl⟩
    · exact ⟨.B, e, rfl⟩
  · obtain ⟨cs, rfl, hs⟩ := cs_among e2
    have hl : (cs.map codeD).length = (1 + r).toNat := by rw [e1]; simp [rngD]
    refine ⟨by omega, by omega, ?_⟩
    refine w_scLoop (sizes cs) (by omega) (fun cs' μ3 o3 o4 o5 h0 hs2 hf3 => ?_) _ cs μ2 _ _ _ (fun z => by rw [z] at hl; simp at hl; omega) rfl hf2
    walk_at "d"
    cases cs' with
    | nil => exact absurd rfl h0
    | cons c cs' =>
      refine ⟨codeD c, atI_0, hq c μ3 ?_ hf3⟩
      rw [sizes_cons] at hs2
      omega
/-! ### long -/
def lgStep (W : Nat → DF) : DS := (dSeq (dSet 4 (dOp gIx (dLst (dCons (dC (.str "B")) (dCons (dC (.str "C")) (dCons (dC (.str "I")) dNil)))) (dCall (W 15) (dCons (dVar 0) (dCons (dC (.int 3)) dNil)))))
      (dSet 2 (dOp gIx (dLst (dCons (dTup (dCons (dVar 2) (dCons (dVar 4) dNil))) (dCons (dTup (dCons (dVar 4) (dCons (dVar 2) dNil))) dNil))) (dCall (W 15) (dCons (dVar 0) (dCons (dC (.int 2)) dNil))))))
theorem lg_is (W : Nat → DF) : b__law_long cl W = (dSeq (dSet 2 (dC (.str "I")))
      (dSeq (dFor (dRng1 (dCons (dOp gSub (dVar 1) (dC (.int 1))) dNil)) (gdName 3) (lgStep W)) (dRet (dVar 2)))) := rfl
theorem w_lgLoop {a : Addr} {E : DEnds} {o1 : Option D} (n : Nat) (h : ∀ c μ' o3 o4, Code.size c = n → FeedAt μ' a → E.nx [some (.mref a), o1, some (codeD c), o3, o4] μ') :
    ∀ (items : List D) (c : Code) (μ : Mu) (o3 o4 : Option D), c.size + items.length = n → FeedAt μ a → forD (gdName 3) (lgStep (WW cl (k + 1))) (fun _ => True) E items [some (.mref a), o1, some (codeD c), o3, o4] μ
  | [], c, μ, o3, o4, hs, hf => ⟨trivial, h c μ o3 o4 (by simpa using hs) hf⟩
  | d :: r, c, μ, o3, o4, hs, hf => by
    simp only [List.length_cons] at hs
    refine ⟨trivial, ?_⟩
    rw [lgStep]
    walk_at "d"
    refine w_draw hf (by omega) (by omega) fun r1 μ1 r0 r2 hf1 _ => ?_
    obtain ⟨y, ey, hy⟩ := at3 (x0 := D.str "B") (x1 := D.str "C") (x2 := D.str "I") r0 r2
    walk_at "d"
    refine ⟨y, ey, ?_⟩
    obtain ⟨c1, e1, z1⟩ : ∃ c1 : Code, y = codeD c1 ∧ c1.size = 1 := by
      rcases hy with e | e | e
      · exact ⟨.B, e, rfl⟩
      · exact ⟨.C, e, rfl⟩
      · exact ⟨.I, e, rfl⟩
    refine w_draw hf1 (by omega) (by omega) fun r3 μ3 r0 r2 hf3 _ => ?_
    obtain ⟨z, ez, hz⟩ := at2 (x0 := D.tup [codeD c, y]) (x1 := D.tup [y, codeD c]) r0 r2
    walk_at "d"
    refine ⟨z, ez, ?_⟩
    subst e1
    rcases hz with e | e
    · rw [e]; exact w_lgLoop n h r (.use c c1) μ3 _ _ (by simp only [Code.size]; omega) hf3
    · rw [e]; exact w_lgLoop n h r (.use c1 c) μ3 _ _ (by simp only [Code.size]; omega) hf3
theorem w_long {a : Addr} {m : Int} (hf : FeedAt μ a) (h1 : 1 ≤ m) (h2 : m < 1000) (hq : ∀ c μ', ((Code.size c : Nat) : Int) = m → FeedAt μ' a → Q (codeD c) μ') : WW cl (k + 2) 22 [.mref a, .int m] μ x Q := by
  rw [u__law_long, lg_is]
  walk_at "d"
  simp only [dFor, dRng1]
  walk_at "d"
  refine ⟨by omega, by omega, ?_⟩
  refine w_lgLoop m.toNat (fun c μ' o3 o4 e hf' => ?_) _ .I μ _ _ (by simp [rngD, Code.size]; omega) hf
  walk_at "d"
  exact hq c μ' (by omega) hf'
end
end Once

namespace Once
open PySem PySem.Spec PyProof.Rows L2
variable {cl : Cs}
local macro_rules | `(tactic| walk_at "d") => `(tactic| simp only [dSeq, dNext, dRet, dRetN, dDrop, dIf, dB, dOp, dVar, dC, dNil, dCons, dTup, dLst, dCall, dSet, dUnp, gdTup_t, gdCons_c, gdName, gdNil_n, dAnd, dOr, dNot, dAndV, dOrV, dNotV, dIfE, dIsi, dIsN, dNotN, dB1, dCut, dNoPart, dPart, dNeg, dChain, dSetF, dMeth, dMake, dFld, dAugF, bodyF, startD, bodies, dRaise1,
  List.map_cons, List.map_nil, List.length_cons, List.length_nil, Nat.reduceAdd, Nat.reduceSub, List.replicate_succ, List.replicate_zero, List.cons_append, List.nil_append, List.append_nil, Nat.zero_add,
  List.getElem?_cons_zero, List.getElem?_cons_succ, Option.some.injEq, exists_eq_left', exists_eq_left, List.set_cons_zero, List.set_cons_succ, D.bl.injEq, D.int.injEq, D.str.injEq, D.tup.injEq, List.cons.injEq, and_true, true_and, Bool.not_true, Bool.not_false, if_true, if_false, Bool.false_eq_true, reduceCtorEq,
  gAdd_ii, gAdd_ss, gAdd_ll, gSub_ii, gMul_ii, gDiv_ii, gMod_ii, gPow_ii, gInt0_ii, gLt_ii, gLe_ii, gGt_ii, gGe_ii, gEq_ii, gEq_ss, gEq_bb, gNe_ii, gNe_ss, gNe_bb, gIx_t, gIx_s, gIx_l, atI_0, atI_1, atI_2, atI_3, gLen_s, gLen_t, gLen_l, gCut_l, gCut_s, gAbs_i, gIntOf_i, gIn_s, gNotIn_s])



def inD (z : List Int) : List D := z.map .int
theorem inD_len (z : List Int) : (inD z).length = z.length := List.length_map ..
theorem inD_app (a b : List Int) : inD a ++ inD b = inD (a ++ b) := by simp [inD]
theorem inD_ok : ∀ z : List Int, okDs (inD z) = true ∧ deepDs (inD z) ≤ 1
  | [] => by simp [inD, okDs, deepDs]
  | n :: z => by have := inD_ok z; simp only [inD, List.map_cons, okDs, deepDs, okD, deepD] at this ⊢; simp [this]
theorem inD_okL (z : List Int) : okD (.lst (inD z)) = true ∧ deepD (.lst (inD z)) ≤ 2 := by
  have := inD_ok z
  simp only [okD, deepD]
  exact ⟨this.1, by omega⟩
def Code.nums : Code → List Int
  | .B => [1] | .C => [2] | .I => [3]
  | .use f x => 0 :: (f.nums ++ x.nums)
theorem Code.nums_len : ∀ c : Code, c.nums.length + 1 = 2 * c.size
  | .B => rfl
  | .C => rfl
  | .I => rfl
  | .use f x => by have h1 := f.nums_len; have h2 := x.nums_len; simp only [nums, size, List.length_cons, List.length_append]; omega
def checkN (l : List Int) : List Int := l ++ [l.sum % 251]
def whole (c : Code) : List Int := checkN (79 :: c.nums)
theorem whole_len (c : Code) : (whole c).length = 2 * c.size + 1 := by
  have := c.nums_len
  simp only [whole, checkN, List.length_append, List.length_cons, List.length_nil]; omega
theorem gSum_l {z : List Int} {μ : Mu} {k : DK} (h : k (.int z.sum) μ) : gSum [.lst (inD z)] μ k := ⟨z, rfl, h⟩
theorem kidx {ys : List Str} {c : Code} (e : ys = [("B" : Str), "C", "I"]) (hc : c.isUse = false) : ∃ (z : Str) (j : Nat), codeD c = .str z ∧ ys[j]? = some z ∧ (∀ m, m < j → ys[m]? ≠ some z) ∧ [1 + (j : Int)] = c.nums := by
  subst e
  cases c with
  | B => exact ⟨"B", 0, rfl, rfl, fun m h => absurd h (Nat.not_lt_zero _), rfl⟩
  | C => exact ⟨"C", 1, rfl, rfl, fun m h => by
      obtain rfl : m = 0 := by omega
      decide, rfl⟩
  | I => exact ⟨"I", 2, rfl, rfl, fun m h => by
      have : m = 0 ∨ m = 1 := by omega
      rcases this with e | e <;> (subst e; decide), rfl⟩
  | use f x => cases hc
section
variable {k : Nat} {μ : Mu} {x : DXF} {Q : DK}
theorem w_code_numbers : ∀ (c : Code) (k : Nat) (Q : DK), c.size ≤ 1000 → c.deep + 2 ≤ k → Q (.lst (inD c.nums)) μ → WW cl k 7 [codeD c] μ x Q := by
  intro c
  have leaf : ∀ (c : Code) (k : Nat) (Q : DK), c.isUse = false → c.deep + 2 ≤ k → Q (.lst (inD c.nums)) μ → WW cl k 7 [codeD c] μ x Q := fun c k Q hc hk h => by
    obtain ⟨k, rfl⟩ : ∃ j, k = j + 2 := ⟨k - 2, by omega⟩
    rw [u_code_numbers, b_code_numbers]
    walk_at "d"
    refine w_is_use (k := k) c ?_
    rw [hc]
    walk_at "d"
    simp only [dKIdx]
    walk_at "d"
    obtain ⟨z, j, e1, e2, e3, e4⟩ := kidx (ys := [("B" : Str), "C", "I"]) rfl hc
    refine ⟨z, j, e1, e2, e3, ?_⟩
    rw [← e4] at h
    exact h
  induction c with
  | use f y hf hy =>
    intro k Q hs hk h
    obtain ⟨k, rfl⟩ : ∃ j, k = j + 2 := ⟨k - 2, by simp only [Code.deep] at hk; omega⟩
    simp only [Code.deep] at hk
    simp only [Code.size] at hs
    have h1 := f.nums_len
    have h2 := y.nums_len
    have h3 := line_big
    rw [u_code_numbers, b_code_numbers]
    walk_at "d"
    refine w_is_use (k := k) (.use f y) ?_
    simp only [Code.isUse, codeD]
    walk_at "d"
    refine hf _ _ (by omega) (by omega) ?_
    walk_at "d"
    rw [inD_len]
    refine ⟨by omega, hy _ _ (by omega) (by omega) ?_⟩
    walk_at "d"
    simp only [List.length_cons, inD_len]
    refine ⟨by omega, ?_⟩
    rw [inD_app]
    exact h
  | _ => exact fun k Q hs hk h => leaf _ k Q rfl hk h
theorem s_bci0 : (" BCI" : Str) = tx [32, 66, 67, 73] := rfl
theorem w_law_numbers : ∀ (c : Code) (k : Nat) (Q : DK), c.size ≤ 1000 → c.deep + 2 ≤ k → Q (.lst (inD c.nums)) μ → WW cl k 18 [codeD c] μ x Q := by
  intro c
  induction c with
  | use f y hf hy =>
    intro k Q hs hk h
    obtain ⟨k, rfl⟩ : ∃ j, k = j + 2 := ⟨k - 2, by simp only [Code.deep] at hk; omega⟩
    simp only [Code.deep] at hk
    simp only [Code.size] at hs
    have h1 := f.nums_len
    have h2 := y.nums_len
    have h3 := line_big
    rw [u__law_code_numbers, b__law_code_numbers]
    simp only [codeD]
    walk_at "d"
    refine ⟨trivial, ?_⟩
    simp only [isStr]
    walk_at "d"
    refine hf _ _ (by omega) (by omega) ?_
    walk_at "d"
    rw [inD_len]
    refine ⟨by omega, hy _ _ (by omega) (by omega) ?_⟩
    walk_at "d"
    simp only [List.length_cons, inD_len]
    refine ⟨by omega, ?_⟩
    rw [inD_app]
    exact h
  | B =>
    intro k Q hs hk h
    obtain ⟨k, rfl⟩ : ∃ j, k = j + 2 := ⟨k - 2, by simp only [Code.deep] at hk; omega⟩
    rw [u__law_code_numbers, b__law_code_numbers]
    walk_at "d"
    simp only [codeD, isStr, dSIdx]
    walk_at "d"
    exact ⟨trivial, _, 1, [], rfl, by decide +kernel, h⟩
  | C =>
    intro k Q hs hk h
    obtain ⟨k, rfl⟩ : ∃ j, k = j + 2 := ⟨k - 2, by simp only [Code.deep] at hk; omega⟩
    rw [u__law_code_numbers, b__law_code_numbers]
    walk_at "d"
    simp only [codeD, isStr, dSIdx]
    walk_at "d"
    exact ⟨trivial, _, 2, [], rfl, by decide +kernel, h⟩
  | I =>
    intro k Q hs hk h
    obtain ⟨k, rfl⟩ : ∃ j, k = j + 2 := ⟨k - 2, by simp only [Code.deep] at hk; omega⟩
    rw [u__law_code_numbers, b__law_code_numbers]
    walk_at "d"
    simp only [codeD, isStr, dSIdx]
    walk_at "d"
    exact ⟨trivial, _, 3, [], rfl, by decide +kernel, h⟩
theorem w_checked {z : List Int} (hl : z.length ≤ 10000) (h : ∀ a, μ a = none → Q (.mref a) (put μ a (.lst (inD (checkN z))))) : WW cl (k + 1) 6 [.lst (inD z)] μ x Q := by
  have h3 := line_big
  rw [u_checked, b_checked]
  walk_at "d"
  refine gSum_l ?_
  walk_at "d"
  refine ⟨by omega, rfl, rfl, inD z, [.int (z.sum % 251)], rfl, rfl, by rw [inD_len]; simp only [List.length_cons, List.length_nil]; omega, fun a ha => ?_⟩
  have := h a ha
  simpa [checkN, inD] using this
theorem w_bytes_of_code {c : Code} (hs : c.size ≤ 1000) (hk : c.deep + 4 ≤ k) (h : ∀ a, μ a = none → Q (.mref a) (put μ a (.lst (inD (whole c))))) : WW cl k 8 [codeD c] μ x Q := by
  obtain ⟨k, rfl⟩ : ∃ j, k = j + 2 := ⟨k - 2, by omega⟩
  have h3 := line_big
  have hn := c.nums_len
  rw [u_bytes_of_code, b_bytes_of_code]
  walk_at "d"
  refine w_code_numbers c _ _ hs (by omega) ?_
  walk_at "d"
  simp only [List.length_cons, List.length_nil, inD_len]
  refine ⟨by omega, ?_⟩
  exact w_checked (k := k) (z := 79 :: c.nums) (by simp only [List.length_cons]; omega) h
theorem w_whole {c : Code} (hs : c.size ≤ 1000) (hk : c.deep + 4 ≤ k) (h : Q (.lst (inD (whole c))) μ) : WW cl k 21 [codeD c] μ x Q := by
  obtain ⟨k, rfl⟩ : ∃ j, k = j + 2 := ⟨k - 2, by omega⟩
  have h3 := line_big
  have hn := c.nums_len
  rw [u__law_whole, b__law_whole]
  walk_at "d"
  refine w_law_numbers c _ _ hs (by omega) ?_
  walk_at "d"
  simp only [List.length_cons, List.length_nil, inD_len]
  refine ⟨by omega, gSum_l (z := 79 :: c.nums) ?_⟩
  walk_at "d"
  refine ⟨by first | omega | (simp [inD]; omega), by first | omega | (simp [inD]; omega), ?_⟩
  simpa [whole, checkN, inD] using h
/-! ### reading -/
abbrev RdM (cl : Cs) (d : D) (p n : Nat) : MO := .ins cl.Reader ["numbers", "at", "parts"] [d, .int (p : Nat), .int (n : Nat)]
theorem w_init {r : Addr} {d : D} {E : DEnds} {W : Nat → DF} (hr : μ r = some (.ins cl.Reader [] [])) (h : E.nx [some (.mref r), some d] (put μ r (RdM cl d 0 0))) : b_Reader_init cl W E [some (.mref r), some d] μ := by
  rw [b_Reader_init]
  walk_at "d"
  refine ⟨r, _, _, rfl, hr, by decide, r, _, _, rfl, put_same, by decide, r, _, _, rfl, put_same, by decide, ?_⟩
  rw [put_put, put_put]
  exact h
theorem w_number {r : Addr} {z pz rest : List Int} {n : Nat} {lo hi : Int} (hz : z = pz ++ rest) (hm : μ r = some (RdM cl (.lst (inD z)) pz.length n))
    (h1 : ∀ s rr, rest = s :: rr → lo ≤ s → s ≤ hi → Q (.int s) (put μ r (RdM cl (.lst (inD z)) (pz.length + 1) n)))
    (h2 : (∀ s rr, rest = s :: rr → ¬ (lo ≤ s ∧ s ≤ hi)) → x "BadBytes" (["at"], [.int (pz.length : Nat)]) μ) : WW cl (k + 1) 9 [.mref r, .int lo, .int hi] μ x Q := by
  rw [u_Reader_number, b_Reader_number]
  walk_at "d"
  refine ⟨r, _, _, _, rfl, hm, rfl, ?_⟩
  refine ⟨r, _, _, _, rfl, hm, rfl, ?_⟩
  walk_at "d"
  rw [inD_len]
  have bad : (∀ s rr, rest = s :: rr → ¬ (lo ≤ s ∧ s ≤ hi)) → x "BadBytes" (["at"], [.int (pz.length : Nat)]) μ := h2
  cases rest with
  | nil =>
    rw [if_pos (by rw [hz]; simp)]
    exact ⟨r, _, _, _, rfl, hm, rfl, bad fun s rr e => by cases e⟩
  | cons s rr =>
    have hp : pz.length < z.length := by rw [hz]; simp
    have es : atI (inD z) ((pz.length : Nat) : Int) = some (.int s) := atI_nat (by rw [hz]; simp [inD])
    rw [if_neg (by simp; omega)]
    refine ⟨r, _, _, _, rfl, hm, rfl, ?_⟩
    refine ⟨r, _, _, _, rfl, hm, rfl, ?_⟩
    walk_at "d"
    refine ⟨_, es, ?_⟩
    walk_at "d"
    have good : lo ≤ s → s ≤ hi → Q (.int s) (put μ r (RdM cl (.lst (inD z)) (pz.length + 1) n)) := h1 s rr rfl
    by_cases g1 : lo ≤ s
    · rw [if_pos (by simpa using g1)]
      by_cases g2 : s ≤ hi
      · simp only [g2, decide_true, Bool.not_true, Bool.false_eq_true, if_false]
        refine ⟨r, _, _, _, rfl, hm, rfl, ?_⟩
        walk_at "d"
        refine ⟨_, _, hm, by decide, ?_⟩
        have e2 : put μ r (.ins cl.Reader (putN "at" ["numbers", "at", "parts"]) (putV "at" (.int (((pz.length : Nat) : Int) + 1)) ["numbers", "at", "parts"] [.lst (inD z), .int ((pz.length : Nat) : Int), .int (n : Nat)])) r = some (RdM cl (.lst (inD z)) (pz.length + 1) n) := by
          rw [put_same]
          show some (MO.ins cl.Reader ["numbers", "at", "parts"] [.lst (inD z), .int (((pz.length : Nat) : Int) + 1), .int (n : Nat)]) = _
          unfold RdM
          rw [show (((pz.length + 1 : Nat)) : Int) = ((pz.length : Nat) : Int) + 1 by omega]
        have e3 : put μ r (.ins cl.Reader (putN "at" ["numbers", "at", "parts"]) (putV "at" (.int (((pz.length : Nat) : Int) + 1)) ["numbers", "at", "parts"] [.lst (inD z), .int ((pz.length : Nat) : Int), .int (n : Nat)])) = put μ r (RdM cl (.lst (inD z)) (pz.length + 1) n) := by
          funext b
          by_cases hb : b = r
          · subst hb; rw [e2, put_same]
          · rw [put_ne hb, put_ne hb]
        rw [e3]
        refine ⟨r, _, _, _, rfl, put_same, rfl, ?_⟩
        refine ⟨r, _, _, _, rfl, put_same, rfl, ?_⟩
        walk_at "d"
        refine ⟨.int s, ?_, good g1 g2⟩
        rw [show ((pz.length + 1 : Nat) : Int) - 1 = ((pz.length : Nat) : Int) by omega]
        exact es
      · simp only [g2, decide_false, Bool.not_false, if_true]
        exact ⟨r, _, _, _, rfl, hm, rfl, bad fun s' rr' e => by cases e; exact fun h => g2 h.2⟩
    · rw [if_neg (by simpa using g1)]
      try walk_at "d"
      exact ⟨r, _, _, _, rfl, hm, rfl, bad fun s' rr' e => by cases e; exact fun h => g1 h.1⟩
end
end Once

namespace Once
open PySem PySem.Spec PyProof.Rows L2
variable {cl : Cs}
local macro_rules | `(tactic| walk_at "d") => `(tactic| simp only [dSeq, dNext, dRet, dRetN, dDrop, dIf, dB, dOp, dVar, dC, dNil, dCons, dTup, dLst, dCall, dSet, dUnp, gdTup_t, gdCons_c, gdName, gdNil_n, dAnd, dOr, dNot, dAndV, dOrV, dNotV, dIfE, dIsi, dIsN, dNotN, dB1, dCut, dNoPart, dPart, dNeg, dChain, dSetF, dMeth, dMake, dFld, dAugF, bodyF, startD, bodies, dRaise1,
  List.map_cons, List.map_nil, List.length_cons, List.length_nil, Nat.reduceAdd, Nat.reduceSub, List.replicate_succ, List.replicate_zero, List.cons_append, List.nil_append, List.append_nil, Nat.zero_add,
  List.getElem?_cons_zero, List.getElem?_cons_succ, Option.some.injEq, exists_eq_left', exists_eq_left, List.set_cons_zero, List.set_cons_succ, D.bl.injEq, D.int.injEq, D.str.injEq, D.tup.injEq, List.cons.injEq, and_true, true_and, Bool.not_true, Bool.not_false, if_true, if_false, Bool.false_eq_true, reduceCtorEq,
  gAdd_ii, gAdd_ss, gAdd_ll, gSub_ii, gMul_ii, gDiv_ii, gMod_ii, gPow_ii, gInt0_ii, gLt_ii, gLe_ii, gGt_ii, gGe_ii, gEq_ii, gEq_ss, gEq_bb, gNe_ii, gNe_ss, gNe_bb, gIx_t, gIx_s, gIx_l, atI_0, atI_1, atI_2, atI_3, gLen_s, gLen_t, gLen_l, gCut_l, gCut_s, gAbs_i, gIntOf_i, gIn_s, gNotIn_s])




theorem put_eq {μ : Mu} {a : Addr} {m n : MO} (h : m = n) : put μ a m = put μ a n := by rw [h]
abbrev RS (cl : Cs) (μ0 : Mu) (r : Addr) (z : List Int) (p n : Nat) : Mu := put μ0 r (RdM cl (.lst (inD z)) p n)
inductive PRN where
  | err (e : List Int) | ok (c : Code) (r : List Int) (n : Nat)
def letterOf (s : Int) : Code := if s = 1 then .B else if s = 2 then .C else .I
def pr : Nat → Nat → List Int → PRN
  | 0, _, l => .err l
  | _ + 1, _, [] => .err []
  | m + 1, n, s :: l => if 0 ≤ s ∧ s ≤ 3 then (if 0 < s then .ok (letterOf s) l n else if 120 < n + 1 then .err (s :: l) else match pr m (n + 1) l with
      | .err e => .err e
      | .ok f l1 n1 => match pr m n1 l1 with
        | .err e => .err e
        | .ok y l2 n2 => .ok (.use f y) l2 n2) else .err (s :: l)
theorem pr_ok : ∀ (m n : Nat) (l : List Int) (c : Code) (r : List Int) (n' : Nat), pr m n l = .ok c r n' → l = c.nums ++ r ∧ n' + 1 = n + c.size
  | 0, _, _, _, _, _, h => by cases h
  | m + 1, n, [], _, _, _, h => by cases h
  | m + 1, n, s :: l, c, r, n', h => by
    simp only [pr] at h
    by_cases g : 0 ≤ s ∧ s ≤ 3
    · rw [if_pos g] at h
      by_cases g1 : 0 < s
      · rw [if_pos g1] at h
        cases h
        have : s = 1 ∨ s = 2 ∨ s = 3 := by omega
        rcases this with e | e | e <;> (subst e; exact ⟨rfl, rfl⟩)
      · rw [if_neg g1] at h
        have e0 : s = 0 := by omega
        subst e0
        by_cases g2 : 120 < n + 1
        · rw [if_pos g2] at h; cases h
        · rw [if_neg g2] at h
          cases h1 : pr m (n + 1) l with
          | err e => rw [h1] at h; cases h
          | ok f l1 n1 =>
            rw [h1] at h
            simp only at h
            cases h2 : pr m n1 l1 with
            | err e => rw [h2] at h; cases h
            | ok y l2 n2 =>
              rw [h2] at h
              cases h
              obtain ⟨e1, e2⟩ := pr_ok m (n + 1) l f l1 n1 h1
              obtain ⟨e3, e4⟩ := pr_ok m n1 l1 y r n' h2
              refine ⟨by rw [e1, e3]; simp [Code.nums], by simp only [Code.size]; omega⟩
    · rw [if_neg g] at h; cases h
theorem pr_nums : ∀ (c : Code) (m n : Nat) (r : List Int), c.deep < m → n + c.size ≤ 121 → pr m n (c.nums ++ r) = .ok c r (n + c.size - 1)
  | .B, m + 1, n, r, _, _ => rfl
  | .C, m + 1, n, r, _, _ => rfl
  | .I, m + 1, n, r, _, _ => rfl
  | .use f x, m + 1, n, r, h, hs => by
    simp only [Code.deep] at h
    simp only [Code.size] at hs
    have pf := f.pos
    have px := x.pos
    have h1 := pr_nums f m (n + 1) (x.nums ++ r) (by omega) (by omega)
    have h2 := pr_nums x m (n + 1 + f.size - 1) r (by omega) (by omega)
    simp only [Code.nums, List.cons_append, List.append_assoc, pr]
    rw [if_pos ⟨by omega, by omega⟩, if_neg (by omega), if_neg (by omega), h1]
    simp only [h2, Code.size]
    congr 1
    omega
/-- too many -/
theorem pr_many : ∀ (c : Code) (m n : Nat) (r : List Int), n ≤ 120 → 121 ≤ m + n → 121 < n + c.size → ∃ e, pr m n (c.nums ++ r) = .err e
  | .B, m, n, r, _, _, h => by simp only [Code.size] at h; omega
  | .C, m, n, r, _, _, h => by simp only [Code.size] at h; omega
  | .I, m, n, r, _, _, h => by simp only [Code.size] at h; omega
  | .use f x, 0, n, r, h0, h1, h => by omega
  | .use f x, m + 1, n, r, h0, h1, h => by
    simp only [Code.size] at h
    simp only [Code.nums, List.cons_append, List.append_assoc, pr]
    rw [if_pos ⟨by omega, by omega⟩, if_neg (by omega)]
    by_cases g2 : 120 < n + 1
    · rw [if_pos g2]; exact ⟨_, rfl⟩
    · rw [if_neg g2]
      by_cases g3 : 121 < n + 1 + f.size
      · obtain ⟨e, he⟩ := pr_many f m (n + 1) (x.nums ++ r) (by omega) (by omega) g3
        rw [he]; exact ⟨_, rfl⟩
      · have pf := f.pos
        have df := f.deep_lt
        rw [pr_nums f m (n + 1) _ (by omega) (by omega)]
        simp only
        obtain ⟨e, he⟩ := pr_many x m (n + 1 + f.size - 1) r (by omega) (by omega) (by omega)
        rw [he]; exact ⟨_, rfl⟩
section
variable {k : Nat} {μ μ0 : Mu} {x : DXF} {Q : DK}
theorem w_part {r : Addr} {z : List Int} {p n : Nat} (h1 : ¬ 120 < n + 1 → Q .non (RS cl μ0 r z p (n + 1))) (h2 : 120 < n + 1 → x "BadBytes" (["at"], [.int ((p : Nat) - 1)]) (RS cl μ0 r z p (n + 1))) :
    WW cl (k + 1) 11 [.mref r, .int 120] (RS cl μ0 r z p n) x Q := by
  rw [u_Reader_part, b_Reader_part]
  walk_at "d"
  refine ⟨r, _, _, _, rfl, put_same, rfl, ?_⟩
  walk_at "d"
  refine ⟨_, _, put_same, by decide, ?_⟩
  rw [put_put]
  have e : put μ0 r (.ins cl.Reader (putN "parts" ["numbers", "at", "parts"]) (putV "parts" (.int ((n : Nat) + 1)) ["numbers", "at", "parts"] [.lst (inD z), .int (p : Nat), .int (n : Nat)])) = RS cl μ0 r z p (n + 1) := put_eq rfl
  rw [e]
  refine ⟨r, _, _, _, rfl, put_same, rfl, ?_⟩
  walk_at "d"
  by_cases g : 120 < n + 1
  · rw [if_pos (by rw [decide_eq_true_eq]; omega)]
    refine ⟨r, _, _, _, rfl, put_same, rfl, ?_⟩
    walk_at "d"
    exact h2 g
  · rw [if_neg (by rw [decide_eq_true_eq]; omega)]
    exact h1 g
theorem w_rcode {r : Addr} {z : List Int} : ∀ (m n k : Nat) (pz rest : List Int) (Q : DK), z = pz ++ rest → n ≤ 120 → 121 ≤ m + n → m + 3 ≤ k →
    (∀ c rr n', pr m n rest = .ok c rr n' → Q (codeD c) (RS cl μ0 r z (z.length - rr.length) n')) →
    (∀ e, pr m n rest = .err e → ∀ p' n', x "BadBytes" (["at"], [.int ((z.length - e.length : Nat) : Int)]) (RS cl μ0 r z p' n')) →
    WW cl k 12 [.mref r] (RS cl μ0 r z pz.length n) x Q
  | 0, n, _, _, _, _, _, h0, h1, _, _, _ => by omega
  | m + 1, n, k, pz, rest, Q, hz, h0, h1, hk, ho, he => by
    obtain ⟨k, rfl⟩ : ∃ j, k = j + 2 := ⟨k - 2, by omega⟩
    have lz : z.length - rest.length = pz.length := by rw [hz, List.length_append]; omega
    rw [u_Reader_code, b_Reader_code]
    walk_at "d"
    refine ⟨r, _, _, rfl, put_same, rfl, ?_⟩
    refine w_number (lo := 0) (hi := 3) (n := n) hz put_same (fun s rr e g1 g2 => ?_) fun hb => ?_
    · subst e
      rw [put_put]
      have hz1 : z = (pz ++ [s]) ++ rr := by rw [hz]; simp
      have l1 : (pz ++ [s]).length = pz.length + 1 := by simp
      walk_at "d"
      by_cases g : 0 < s
      · rw [if_pos (by simpa using g)]
        have q := ho (letterOf s) rr n (by simp only [pr]; rw [if_pos ⟨g1, g2⟩, if_pos g])
        have lr : z.length - rr.length = pz.length + 1 := by rw [hz1, List.length_append, l1]; omega
        rw [lr] at q
        have : s = 1 ∨ s = 2 ∨ s = 3 := by omega
        rcases this with e | e | e
        · subst e; exact ⟨_, atI_0, q⟩
        · subst e; exact ⟨_, atI_1, q⟩
        · subst e; exact ⟨_, atI_2, q⟩
      · rw [if_neg (by simpa using g)]
        have e0 : s = 0 := by omega
        subst e0
        refine ⟨r, _, _, rfl, put_same, rfl, ?_⟩
        refine w_part (fun g3 => ?_) fun g3 => ?_
        · try walk_at "d"
          refine ⟨r, _, _, rfl, put_same, rfl, ?_⟩
          rw [← l1]
          refine w_rcode m (n + 1) (k + 1) (pz ++ [0]) rr _ hz1 (by omega) (by omega) (by omega) (fun f r1 n1 e1 => ?_) fun e e1 => he e (by simp only [pr, if_pos (show (0 : Int) ≤ 0 ∧ (0 : Int) ≤ 3 from ⟨by omega, by omega⟩), if_neg g, if_neg g3, e1])
          obtain ⟨e2, e3⟩ := pr_ok _ _ _ _ _ _ e1
          have hz2 : z = (pz ++ [0] ++ f.nums) ++ r1 := by rw [hz1, e2]; simp
          have l2 : z.length - r1.length = (pz ++ [0] ++ f.nums).length := by rw [hz2, List.length_append]; omega
          have pf := f.pos
          try walk_at "d"
          refine ⟨r, _, _, rfl, put_same, rfl, ?_⟩
          rw [l2]
          by_cases g4 : n1 ≤ 120
          · refine w_rcode m n1 (k + 1) _ r1 _ hz2 g4 (by omega) (by omega) (fun y r2 n2 e4 => ?_) fun e e4 => he e (by simp only [pr, if_pos (show (0 : Int) ≤ 0 ∧ (0 : Int) ≤ 3 from ⟨by omega, by omega⟩), if_neg g, if_neg g3, e1, e4])
            try walk_at "d"
            exact ho (.use f y) r2 n2 (by simp only [pr, if_pos (show (0 : Int) ≤ 0 ∧ (0 : Int) ≤ 3 from ⟨by omega, by omega⟩), if_neg g, if_neg g3, e1, e4])
          · exfalso
            have : ∀ (m n : Nat) (l : List Int) (c : Code) (r : List Int) (n' : Nat), n ≤ 120 → pr m n l = .ok c r n' → n' ≤ 120 := by
              intro m
              induction m with
              | zero => intro n l c r n' _ h; cases h
              | succ m ih =>
                intro n l c r n' hn h
                cases l with
                | nil => cases h
                | cons s l =>
                  simp only [pr] at h
                  split at h
                  · split at h
                    · cases h; exact hn
                    · split at h
                      · cases h
                      · cases h1 : pr m (n + 1) l with
                        | err e => rw [h1] at h; cases h
                        | ok f l1 n1 =>
                          rw [h1] at h
                          simp only at h
                          cases h2 : pr m n1 l1 with
                          | err e => rw [h2] at h; cases h
                          | ok y l2 n2 =>
                            rw [h2] at h
                            cases h
                            exact ih n1 l1 y _ _ (ih (n + 1) l f l1 n1 (by omega) h1) h2
                  · cases h
            exact g4 (this _ _ _ _ _ _ (by omega) e1)
        · have := he (0 :: rr) (by simp only [pr, if_pos (show (0 : Int) ≤ 0 ∧ (0 : Int) ≤ 3 from ⟨by omega, by omega⟩), if_neg g, if_pos g3]) (pz.length + 1) (n + 1)
          rw [lz] at this
          rw [show ((pz.length + 1 : Nat) : Int) - 1 = ((pz.length : Nat) : Int) by omega]
          exact this
    · have : pr (m + 1) n rest = .err rest := by
        cases rest with
        | nil => rfl
        | cons s rr => simp only [pr]; rw [if_neg (hb s rr rfl)]
      have := he rest this pz.length n
      rw [lz] at this
      exact this
theorem w_check {r : Addr} {z pz rest : List Int} {n : Nat} (hz : z = pz ++ rest)
    (h1 : rest = [pz.sum % 251] → Q .non (RS cl μ0 r z (pz.length + 1) n))
    (h2 : (∀ rr, rest ≠ (pz.sum % 251) :: rr) → x "BadBytes" (["at"], [.int (pz.length : Nat)]) (RS cl μ0 r z pz.length n))
    (h3 : ∀ s rr, rest = (pz.sum % 251) :: s :: rr → x "BadBytes" (["at"], [.int ((pz.length + 1 : Nat) : Int)]) (RS cl μ0 r z (pz.length + 1) n)) :
    WW cl (k + 2) 10 [.mref r] (RS cl μ0 r z pz.length n) x Q := by
  rw [u_Reader_check, b_Reader_check]
  walk_at "d"
  refine ⟨r, _, _, _, rfl, put_same, rfl, ?_⟩
  refine ⟨r, _, _, _, rfl, put_same, rfl, ?_⟩
  walk_at "d"
  rw [cutD_pre]
  have et : (inD z).take pz.length = inD pz := by rw [hz]; simp [inD]
  rw [et]
  refine gSum_l ?_
  walk_at "d"
  refine ⟨by omega, ?_⟩
  refine ⟨r, _, _, rfl, put_same, rfl, ?_⟩
  refine w_number (n := n) hz put_same (fun s rr e g1 g2 => ?_) fun hb => h2 fun rr e => hb _ rr e ⟨Int.le_refl _, Int.le_refl _⟩
  have es : s = pz.sum % 251 := Int.le_antisymm g2 g1
  subst es
  rw [put_put]
  try walk_at "d"
  refine ⟨r, _, _, _, rfl, put_same, rfl, ?_⟩
  refine ⟨r, _, _, _, rfl, put_same, rfl, ?_⟩
  walk_at "d"
  rw [inD_len]
  have lz : z.length = pz.length + (rr.length + 1) := by rw [hz, e]; simp
  cases rr with
  | nil =>
    simp only [List.length_nil] at lz
    rw [if_neg (by rw [decide_eq_true_eq]; omega)]
    exact h1 e
  | cons s rr =>
    simp only [List.length_cons] at lz
    rw [if_pos (by rw [decide_eq_true_eq]; omega)]
    exact ⟨r, _, _, _, rfl, put_same, rfl, h3 s rr e⟩
end
def endN (z : List Int) (c : Code) : List Int → D
  | [] => bad z.length
  | s :: r => if s = (z.take (z.length - (r.length + 1))).sum % 251 then (if r = [] then codeA c else bad (z.length - r.length)) else bad (z.length - (r.length + 1))
def ansT (z : List Int) : PRN → D
  | .err e => bad (z.length - e.length)
  | .ok c r _ => endN z c r
def ansN : List Int → D
  | [] => bad 0
  | s :: l => if s = 79 then ansT (s :: l) (pr 120 1 l) else bad 0
section
variable {k : Nat} {μ μ0 : Mu} {x : DXF} {Q : DK}
theorem w_code_of_bytes {z : List Int} (hk : 130 ≤ k) (ho : ∀ c, ansN z = codeA c → Q (codeD c) μ) (he : ∀ i : Nat, ansN z = bad i → x "BadBytes" (["at"], [.int (i : Nat)]) μ) : WW cl k 13 [.lst (inD z)] μ x Q := by
  obtain ⟨k, rfl⟩ : ∃ j, k = j + 3 := ⟨k - 3, by omega⟩
  rw [u_code_of_bytes, b_code_of_bytes]
  simp only [bodyG, lessF]
  walk_at "d"
  intro r hr
  refine w_init put_same ?_
  rw [put_put]
  have sub : ∀ m, SubM μ (put μ r m) := fun m b o e => by
    have : b ≠ r := fun z => by rw [z, hr] at e; cases e
    rw [put_ne this]; exact e
  refine ⟨r, _, _, rfl, put_same, rfl, ?_⟩
  refine w_number (pz := []) (rest := z) (lo := 79) (hi := 79) (n := 0) rfl put_same (fun s l e g1 g2 => ?_) fun hb => ?_
  · have es : s = 79 := Int.le_antisymm g2 g1
    subst es
    subst e
    rw [put_put]
    try walk_at "d"
    refine ⟨r, _, _, rfl, put_same, by decide, ?_⟩
    rw [put_put]
    have e2 : put μ r (.ins cl.Reader (putN "parts" ["numbers", "at", "parts"]) (putV "parts" (.int 1) ["numbers", "at", "parts"] [.lst (inD (79 :: l)), .int (1 : Nat), .int (0 : Nat)])) = RS cl μ r (79 :: l) ([(79 : Int)]).length 1 := put_eq rfl
    rw [e2]
    refine ⟨r, _, _, rfl, put_same, rfl, ?_⟩
    have ea : ansN (79 :: l) = ansT (79 :: l) (pr 120 1 l) := by simp [ansN]
    refine w_rcode 120 1 (k + 2) [79] l _ rfl (by omega) (by omega) (by omega) (fun c rr n' e1 => ?_) fun e e1 p' n' => (⟨μ, sub _, he _ (by rw [ea, e1]; rfl)⟩ : ∃ ν, SubM ν _ ∧ x _ _ ν)
    obtain ⟨e3, _⟩ := pr_ok _ _ _ _ _ _ e1
    have en : ansN (79 :: l) = endN (79 :: l) c rr := by rw [ea, e1]; rfl
    have hz : (79 : Int) :: l = (79 :: c.nums) ++ rr := by rw [e3]; rfl
    have lp : (79 :: l).length - rr.length = (79 :: c.nums).length := by rw [hz, List.length_append]; omega
    have tk : ((79 : Int) :: l).take ((79 :: c.nums).length) = 79 :: c.nums := by rw [hz]; simp
    try walk_at "d"
    refine ⟨r, _, _, rfl, put_same, rfl, ?_⟩
    have lp' : l.length + 1 - rr.length = (79 :: c.nums).length := lp
    rw [lp']
    refine w_check (k := k) hz (fun e4 => ?_) (fun e4 => ⟨μ, sub _, he _ ?_⟩) fun s r2 e4 => ⟨μ, sub _, he _ ?_⟩
    · try walk_at "d"
      refine ⟨μ, sub _, ho c ?_⟩
      rw [en, e4]
      show (if _ = _ then _ else _) = _
      rw [show (79 :: l).length - (([] : List Int).length + 1) = (79 :: c.nums).length by rw [← lp, e4]; rfl, tk, if_pos rfl, if_pos rfl]
    · rw [en]
      cases rr with
      | nil =>
        show bad (79 :: l).length = _
        rw [← lp]; rfl
      | cons s r2 =>
        have lq : (79 :: l).length - (r2.length + 1) = (79 :: c.nums).length := lp
        show (if _ = _ then _ else _) = _
        rw [lq, tk, if_neg fun q => e4 r2 (by rw [q])]
    · rw [en, e4]
      have lq : (79 :: l).length - ((s :: r2).length + 1) = (79 :: c.nums).length := by rw [← lp, e4]; rfl
      show (if _ = _ then _ else _) = _
      rw [lq, tk, if_pos rfl, if_neg (by simp)]
      congr 1
      simp only [List.length_cons] at lq ⊢
      have : (79 :: l).length = (79 :: c.nums).length + rr.length := by rw [hz, List.length_append]
      rw [e4] at this
      simp only [List.length_cons] at this
      omega
  · refine ⟨μ, sub _, he 0 ?_⟩
    cases z with
    | nil => rfl
    | cons s l =>
      have : s ≠ 79 := fun q => hb s l rfl ⟨by omega, by omega⟩
      simp [ansN, this]
end
end Once

namespace Once
open PySem PySem.Spec PyProof.Rows L2
variable {cl : Cs}
local macro_rules | `(tactic| walk_at "d") => `(tactic| simp only [dSeq, dNext, dRet, dRetN, dDrop, dIf, dB, dOp, dVar, dC, dNil, dCons, dTup, dLst, dCall, dSet, dUnp, gdTup_t, gdCons_c, gdName, gdNil_n, dAnd, dOr, dNot, dAndV, dOrV, dNotV, dIfE, dIsi, dIsN, dNotN, dB1, dCut, dNoPart, dPart, dNeg, dChain, dSetF, dMeth, dMake, dFld, dAugF, dAug, bodyF, startD, bodies, dRaise1,
  List.map_cons, List.map_nil, List.length_cons, List.length_nil, Nat.reduceAdd, Nat.reduceSub, List.replicate_succ, List.replicate_zero, List.cons_append, List.nil_append, List.append_nil, Nat.zero_add,
  List.getElem?_cons_zero, List.getElem?_cons_succ, Option.some.injEq, exists_eq_left', exists_eq_left, List.set_cons_zero, List.set_cons_succ, D.bl.injEq, D.int.injEq, D.str.injEq, D.tup.injEq, List.cons.injEq, and_true, true_and, Bool.not_true, Bool.not_false, if_true, if_false, Bool.false_eq_true, reduceCtorEq,
  gAdd_ii, gAdd_ss, gAdd_ll, gSub_ii, gMul_ii, gDiv_ii, gMod_ii, gPow_ii, gInt0_ii, gLt_ii, gLe_ii, gGt_ii, gGe_ii, gEq_ii, gEq_ss, gEq_bb, gNe_ii, gNe_ss, gNe_bb, gIx_t, gIx_s, gIx_l, atI_0, atI_1, atI_2, atI_3, gLen_s, gLen_t, gLen_l, gCut_l, gCut_s, gAbs_i, gIntOf_i, gIn_s, gNotIn_s])



/-! ### due -/
def Stk (μ0 μ : Mu) (h : Addr) : List Addr → List (List Code) → Prop
  | [], [] => True
  | a :: as, s :: st => μ a = some (.lst (s.map codeD)) ∧ a ∉ as ∧ a ≠ h ∧ μ0 a = none ∧ Stk μ0 μ h as st
  | _, _ => False
def hp (as : List Addr) : List D := as.reverse.map .mref
theorem hp_cons (a : Addr) (as : List Addr) : hp (a :: as) = hp as ++ [.mref a] := by simp [hp]
theorem hp_len (as : List Addr) : (hp as).length = as.length := by simp [hp]
structure Inv (μ0 μ : Mu) (h : Addr) (as : List Addr) (st : List (List Code)) : Prop where
  sub : SubM μ0 μ
  h0 : μ0 h = none
  mh : μ h = some (.lst (hp as))
  sk : Stk μ0 μ h as st
theorem Stk.put {μ0 μ : Mu} {h b : Addr} {m : MO} : ∀ {as : List Addr} {st : List (List Code)}, Stk μ0 μ h as st → b ∉ as → Stk μ0 (put μ b m) h as st
  | [], [], _, _ => trivial
  | a :: as, s :: st, ⟨h1, h2, h3, h4, h5⟩, nb => by
    have n1 : a ≠ b := fun e => nb (by rw [e]; exact List.mem_cons_self)
    exact ⟨by rw [put_ne n1]; exact h1, h2, h3, h4, h5.put fun z => nb (List.mem_cons_of_mem _ z)⟩
  | [], _ :: _, z, _ => z.elim
  | _ :: _, [], z, _ => z.elim
theorem Stk.some {μ0 μ : Mu} {h b : Addr} : ∀ {as : List Addr} {st : List (List Code)}, Stk μ0 μ h as st → b ∈ as → ∃ m, μ b = some m
  | [], _, _, z => absurd z (by simp)
  | a :: as, s :: st, ⟨h1, h2, h3, h4, h5⟩, z => by
    rcases List.mem_cons.mp z with e | z
    · subst e; exact ⟨_, h1⟩
    · exact h5.some z
  | _ :: _, [], z, _ => z.elim
theorem Stk.noh {μ0 μ : Mu} {h : Addr} : ∀ {as : List Addr} {st : List (List Code)}, Stk μ0 μ h as st → h ∉ as
  | [], _, _ => by simp
  | a :: as, s :: st, ⟨h1, h2, h3, h4, h5⟩ => by
    intro z
    rcases List.mem_cons.mp z with e | z
    · exact h3 e.symm
    · exact h5.noh z
  | _ :: _, [], z => z.elim
theorem SubM.put {μ0 μ : Mu} {a : Addr} {m : MO} (h : SubM μ0 μ) (n : μ0 a = none) : SubM μ0 (put μ a m) := fun b o e => by
  have : b ≠ a := fun z => by rw [z, n] at e; cases e
  rw [put_ne this]
  exact h b o e
theorem Inv.new {μ0 μ : Mu} {h a : Addr} {as : List Addr} {st : List (List Code)} (I : Inv μ0 μ h as st) (ha : μ a = none) :
    Inv μ0 (put (put μ a (.lst [])) h (.lst (hp as ++ [.mref a]))) h (a :: as) ([] :: st) := by
  have a0 : μ0 a = none := by
    cases e : μ0 a with
    | none => rfl
    | some m => rw [I.sub a m e] at ha; cases ha
  have na : a ∉ as := fun z => by obtain ⟨m, e⟩ := I.sk.some z; rw [e] at ha; cases ha
  have nh : a ≠ h := fun z => by rw [z, I.mh] at ha; cases ha
  refine ⟨(I.sub.put a0).put I.h0, I.h0, by rw [put_same, hp_cons], ⟨by rw [put_ne nh, put_same]; rfl, na, nh, a0, (I.sk.put na).put I.sk.noh⟩⟩
theorem Inv.pop {μ0 μ : Mu} {h a : Addr} {as : List Addr} {s : List Code} {st : List (List Code)} (I : Inv μ0 μ h (a :: as) (s :: st)) : Inv μ0 (put μ h (.lst (hp as))) h as st := by
  obtain ⟨h1, h2, h3, h4, h5⟩ := I.sk
  exact ⟨I.sub.put I.h0, I.h0, put_same, h5.put h5.noh⟩
theorem Inv.add {μ0 μ : Mu} {h a : Addr} {as : List Addr} {s : List Code} {st : List (List Code)} (I : Inv μ0 μ h (a :: as) (s :: st)) (c : Code) :
    Inv μ0 (put μ a (.lst (s.map codeD ++ [codeD c]))) h (a :: as) ((s ++ [c]) :: st) := by
  obtain ⟨h1, h2, h3, h4, h5⟩ := I.sk
  exact ⟨I.sub.put h4, I.h0, by rw [put_ne fun z => h3 z.symm]; exact I.mh, ⟨by rw [put_same]; simp, h2, h3, h4, h5.put h2⟩⟩
theorem rngD_0 (lo : Int) : rngD lo 0 = [] := rfl
theorem rngD_succ (lo : Int) (n : Nat) : rngD lo (n + 1) = .int lo :: rngD (lo + 1) n := by
  unfold rngD
  rw [List.range_succ_eq_map, List.map_cons, List.map_map]
  refine congr (congrArg List.cons ?_) (List.map_congr_left fun i _ => ?_)
  · simp
  · simp only [Function.comp]; congr 1; push_cast; omega
theorem atI_last {α : Type} {x : α} {l : List α} : atI (l ++ [x]) (-1) = some x := by
  have e : ixN (l.length + 1) (-1) = some l.length := by unfold ixN; simp; omega
  simp [atI, e]
def duIn : DS := (dIf (dAnd (dB (dNotN (dVar 6))) (dB (dOp gEq (dB1 gLen (dCons (dOp gIx (dVar 3) (dNeg (dC (.int 1)))) dNil)) (dC (.int 1))))) (dSet 6 (dTup (dCons (dOp gIx (dPop (dVar 3)) (dC (.int 0))) (dCons (dVar 6) dNil)))) dNext)
def duApp : DS := (dIf (dAnd (dB (dNotN (dVar 6))) (dB (dOp gGt (dB1 gLen (dCons (dVar 3) dNil)) (dC (.int 0))))) (dSeq (dDrop (dApp (dOp gIx (dVar 3) (dNeg (dC (.int 1)))) (dVar 6)))
      (dSet 6 (dC .non))) dNext)
def duTail : DS := (dSeq (dAug 4 (gInt0 fun i j => .int (i + j)) (dC (.int 1)))
      (dIf (dB (dOp gEq (dVar 1) (dC (.int 0)))) (dSet 8 (dVar 6)) dNext))
def duStep : DS := (dIf (dB (dOp gGt (dVar 1) (dC (.int 0)))) (dSeq (dIf (dOr (dB (dOp gEq (dVar 4) (dB1 gLen (dCons (dVar 0) dNil)))) (dNot (dB (dChain gLe gLe (dC (.int 0)) (dOp gIx (dVar 0) (dVar 4)) (dC (.int 3)))))) (dRet (dTup (dCons (dC (.str "bad")) (dCons (dVar 4) dNil)))) dNext)
      (dSeq (dSet 6 (dC .non))
      (dSeq (dIf (dB (dOp gEq (dOp gIx (dVar 0) (dVar 4)) (dC (.int 0)))) (dSeq (dAug 1 (gInt0 fun i j => .int (i + j)) (dC (.int 1)))
      (dSeq (dAug 2 (gInt0 fun i j => .int (i + j)) (dC (.int 1)))
      (dSeq (dIf (dB (dOp gGt (dVar 2) (dC (.int 120)))) (dRet (dTup (dCons (dC (.str "bad")) (dCons (dVar 4) dNil)))) dNext)
      (dDrop (dApp (dVar 3) (dNew dNil)))))) (dSeq (dSet 6 (dOp gIx (dC (.str "-BCI")) (dOp gIx (dVar 0) (dVar 4))))
      (dAug 1 (gInt0 fun i j => .int (i - j)) (dC (.int 1)))))
      (dSeq (dFor (dRng1 (dCons (dB1 gLen (dCons (dVar 3) dNil)) dNil)) (gdName 7) duIn)
      (dSeq duApp
      duTail))))) dNext)
def duEnd : DS := (dSeq (dIf (dOr (dB (dOp gEq (dVar 4) (dB1 gLen (dCons (dVar 0) dNil)))) (dB (dOp gNe (dOp gIx (dVar 0) (dVar 4)) (dOp gMod (dB1 gIntOf (dCons (dB1 gSum (dCons (dCut (dVar 0) dNoPart (dPart (dVar 4))) dNil)) dNil)) (dC (.int 251)))))) (dRet (dTup (dCons (dC (.str "bad")) (dCons (dVar 4) dNil)))) dNext)
      (dSeq (dIf (dB (dOp gLt (dOp gAdd (dVar 4) (dC (.int 1))) (dB1 gLen (dCons (dVar 0) dNil)))) (dRet (dTup (dCons (dC (.str "bad")) (dCons (dOp gAdd (dVar 4) (dC (.int 1))) dNil)))) dNext)
      (dRet (dTup (dCons (dC (.str "code")) (dCons (dVar 8) dNil))))))
theorem due_is (W : Nat → DF) : b__law_due cl W = (dSeq (dIf (dOr (dB (dOp gEq (dB1 gLen (dCons (dVar 0) dNil)) (dC (.int 0)))) (dB (dOp gNe (dOp gIx (dVar 0) (dC (.int 0))) (dC (.int 79))))) (dRet (dTup (dCons (dC (.str "bad")) (dCons (dC (.int 0)) dNil)))) dNext)
      (dSeq (dSet 1 (dC (.int 1)))
      (dSeq (dSet 2 (dC (.int 1)))
      (dSeq (dSet 3 (dNew dNil))
      (dSeq (dSet 4 (dC (.int 1)))
      (dSeq (dFor (dRng1 (dCons (dC (.int 400)) dNil)) (gdName 5) duStep)
      duEnd)))))) := rfl

theorem gNe_same {d : D} {μ : Mu} {k : DK} (h1 : okD d = true) (h2 : deepD d ≤ 800) (h : k (.bl false) μ) : gNe d d μ k := by
  refine ⟨h1, h1, by omega, ?_⟩
  rw [eqD_self d h1]; exact h
theorem gEq_same {d : D} {μ : Mu} {k : DK} (h1 : okD d = true) (h2 : deepD d ≤ 800) (h : k (.bl true) μ) : gEq d d μ k := by
  refine ⟨h1, h1, by omega, ?_⟩
  rw [eqD_self d h1]; exact h
def cl2 : Code → List (List Code) → Code × List (List Code)
  | c, [f] :: st => cl2 (.use f c) st
  | c, st => (c, st)
def pops : List (List Code) → Nat
  | [_] :: st => pops st + 1
  | _ => 0
theorem pops_le : ∀ st : List (List Code), pops st ≤ st.length
  | [] => Nat.le_refl _
  | [] :: st => Nat.zero_le _
  | [_] :: st => by have := pops_le st; simp only [pops, List.length_cons]; omega
  | (_ :: _ :: _) :: st => Nat.zero_le _
def empt (st : List (List Code)) : Nat := (st.filter List.isEmpty).length
theorem empt_nil (st : List (List Code)) : empt ([] :: st) = empt st + 1 := by simp [empt]
theorem empt_one (f : Code) (st : List (List Code)) : empt ([f] :: st) = empt st := by simp [empt]
def small (st : List (List Code)) : Prop := ∀ s ∈ st, s.length ≤ 1
theorem cl2_facts : ∀ (c : Code) (st : List (List Code)), small st → empt (cl2 c st).2 = empt st ∧ small (cl2 c st).2 ∧ ((cl2 c st).2 = [] ∨ ∃ st'', (cl2 c st).2 = [] :: st'')
  | c, [], h => ⟨rfl, h, .inl rfl⟩
  | c, [] :: st, h => ⟨rfl, h, .inr ⟨st, rfl⟩⟩
  | c, [f] :: st, h => by
    have := cl2_facts (.use f c) st fun s m => h s (List.mem_cons_of_mem _ m)
    rw [empt_one]
    exact this
  | c, (f :: g :: r) :: st, h => by
    have := h (f :: g :: r) List.mem_cons_self
    simp at this
theorem isNon_code (c : Code) : isNon (codeD c) = false := by cases c <;> rfl
theorem Inv.len {μ0 μ : Mu} {h : Addr} {as : List Addr} {st : List (List Code)} (I : Inv μ0 μ h as st) : as.length = st.length := by
  have : ∀ {as : List Addr} {st : List (List Code)}, Stk μ0 μ h as st → as.length = st.length := fun {as} => by
    induction as with
    | nil => intro st z; cases st with
      | nil => rfl
      | cons _ _ => exact z.elim
    | cons a as ih => intro st z; cases st with
      | nil => exact z.elim
      | cons s st => simp only [List.length_cons, ih z.2.2.2.2]
  exact this I.sk
def DF9 (z : List Int) (h : Addr) (w j p : Int) (o5 o6 o7 o8 : Option D) : Ds := [some (.lst (inD z)), some (.int w), some (.int j), some (.mref h), some (.int p), o5, o6, o7, o8]
section
variable {k : Nat} {μ μ0 : Mu} {x : DXF} {Q : DK}
/-- the heaps whose parts are two are closed -/
theorem w_inner {z : List Int} {h : Addr} {E : DEnds} {w j p : Int} {o5 o8 : Option D} : ∀ (items : List D) (c : Code) (as : List Addr) (st : List (List Code)) (μ : Mu) (o7 : Option D), Inv μ0 μ h as st → small st → items.length ≤ as.length → pops st ≤ items.length →
    (∀ as' μ' o7, Inv μ0 μ' h as' (cl2 c st).2 → E.nx (DF9 z h w j p o5 (some (codeD (cl2 c st).1)) o7 o8) μ') → forD (gdName 7) duIn (fun _ => True) E items (DF9 z h w j p o5 (some (codeD c)) o7 o8) μ
  | [], c, as, st, μ, o7, I, hs, h1, h2, hk => by
    refine ⟨trivial, ?_⟩
    have : cl2 c st = (c, st) := by
      match st with
      | [] => rfl
      | [] :: _ => rfl
      | (_ :: _ :: _) :: _ => rfl
      | [_] :: _ => simp [pops] at h2
    rw [this] at hk
    exact hk as μ o7 I
  | d :: r, c, as, st, μ, o7, I, hs, h1, h2, hk => by
    refine ⟨trivial, ?_⟩
    have el := I.len
    match as, st with
    | [], _ => simp at h1
    | a :: as, [] => cases el
    | a :: as, s :: st =>
      obtain ⟨k1, k2, k3, k4, k5⟩ := I.sk
      simp only [List.length_cons] at h1
      have step : duIn { E with nx := forD (gdName 7) duIn (fun _ => True) E r, ct := forD (gdName 7) duIn (fun _ => True) E r, bk := E.nx } (DF9 z h w j p o5 (some (codeD c)) (some d) o8) μ := by
        rw [duIn, DF9]
        walk_at "d"
        simp only [isNon_code]
        walk_at "d"
        rw [gIx_m I.mh, hp_cons]
        refine ⟨_, atI_last, ?_⟩
        rw [gLen_m k1]
        walk_at "d"
        match s with
        | [] =>
          rw [if_neg (by simp)]
          exact w_inner r c (a :: as) ([] :: st) μ _ I hs (by simp only [List.length_cons]; omega) (Nat.zero_le _) hk
        | [f] =>
          rw [if_pos (by simp)]
          simp only [dPop]
          walk_at "d"
          refine ⟨h, _, .mref a, rfl, I.mh, by rw [hp_cons]; simp, ?_⟩
          have I2 := I.pop
          rw [hp_cons, List.dropLast_concat]
          have e2 : put μ h (.lst (hp as)) a = some (.lst [codeD f]) := by rw [put_ne k3]; exact k1
          rw [gIx_m e2]
          walk_at "d"
          simp only [pops, List.length_cons] at h2
          exact w_inner r (.use f c) as st _ _ I2 (fun s m => hs s (List.mem_cons_of_mem _ m)) (by omega) (by omega) hk
        | f :: g :: r' =>
          have := hs (f :: g :: r') List.mem_cons_self
          simp at this
      exact step
/-- with nothing at hand they stay -/
theorem w_inner0 {z : List Int} {h : Addr} {E : DEnds} {w j p : Int} {o5 o8 : Option D} : ∀ (items : List D) (μ : Mu) (o7 : Option D), (∀ o7, E.nx (DF9 z h w j p o5 (some .non) o7 o8) μ) → forD (gdName 7) duIn (fun _ => True) E items (DF9 z h w j p o5 (some .non) o7 o8) μ
  | [], μ, o7, hk => ⟨trivial, hk o7⟩
  | d :: r, μ, o7, hk => by
    refine ⟨trivial, ?_⟩
    have step : duIn { E with nx := forD (gdName 7) duIn (fun _ => True) E r, ct := forD (gdName 7) duIn (fun _ => True) E r, bk := E.nx } (DF9 z h w j p o5 (some .non) (some d) o8) μ := by
      rw [duIn, DF9]
      walk_at "d"
      simp only [isNon]
      walk_at "d"
      exact w_inner0 r μ _ hk
    exact step
def NX9 (z : List Int) (h : Addr) (E : DEnds) (w j p : Int) (o8 : Option D → Prop) (μ : Mu) : Prop := ∀ o5 o6 o7 o, o8 o → E.nx (DF9 z h w j p o5 o6 o7 o) μ
/-- one letter read: what is at hand is put in its place -/
theorem w_place {z : List Int} {h : Addr} {E : DEnds} {j p : Int} {o5 o7 o8 : Option D} {c : Code} {as : List Addr} {st : List (List Code)} (I : Inv μ0 μ h as st) (hs : small st) (hl : as.length ≤ 1000)
    (h1 : (cl2 c st).2 = [] → ∀ μ', SubM μ0 μ' → NX9 z h E 0 j (p + 1) (fun o => o = some (codeD (cl2 c st).1)) μ')
    (h2 : ∀ st'', (cl2 c st).2 = [] :: st'' → ∀ a as' μ', Inv μ0 μ' h (a :: as') ([(cl2 c st).1] :: st'') → NX9 z h E ((1 + empt ([(cl2 c st).1] :: st'') : Nat)) j (p + 1) (fun _ => True) μ') :
    dSeq (dFor (dRng1 (dCons (dB1 gLen (dCons (dVar 3) dNil)) dNil)) (gdName 7) duIn) (dSeq duApp duTail) E (DF9 z h ((empt st : Nat)) j p o5 (some (codeD c)) o7 o8) μ := by
  have h3 := line_big
  obtain ⟨f1, f2, f3⟩ := cl2_facts c st hs
  rw [DF9]
  walk_at "d"
  simp only [dFor, dRng1]
  walk_at "d"
  rw [gLen_m I.mh]
  have lh := hp_len as
  refine ⟨_, rfl, by omega, by omega, ?_⟩
  refine w_inner _ c as st μ o7 I hs (by simp [rngD, hp_len]) (by have := pops_le st; have := I.len; simp [rngD, hp_len]; omega) fun as' μ' o7' I' => ?_
  have el := I'.len
  rw [duApp, DF9]
  walk_at "d"
  simp only [isNon_code]
  walk_at "d"
  rw [gLen_m I'.mh]
  walk_at "d"
  rcases f3 with e | ⟨st'', e⟩
  · rw [e] at el
    have ea : as' = [] := List.eq_nil_of_length_eq_zero el
    subst ea
    rw [if_neg (by simp [hp])]
    rw [duTail]
    walk_at "d"
    have e0 : empt st = 0 := by rw [← f1, e]; rfl
    rw [e0]
    rw [if_pos (by simp)]
    exact h1 e μ' I'.sub _ _ _ _ rfl
  · rw [e] at I' el f1 f2
    match as', el with
    | a :: as', _ =>
      obtain ⟨k1, k2, k3, k4, k5⟩ := I'.sk
      rw [if_pos (by rw [hp_len, decide_eq_true_eq]; simp only [List.length_cons]; omega)]
      simp only [dApp]
      walk_at "d"
      rw [gIx_m I'.mh, hp_cons]
      refine ⟨_, atI_last, a, _, rfl, k1, ?_⟩
      try walk_at "d"
      refine ⟨_, k1, by simp; omega, ?_⟩
      rw [duTail]
      walk_at "d"
      rw [if_neg (by rw [← f1, empt_nil]; simp; omega)]
      have := h2 st'' e a as' _ (I'.add (cl2 c st).1) o5 (some .non) o7' o8 trivial
      rw [empt_one] at this
      have ew : (1 + empt st'' : Nat) = empt st := by rw [← f1, empt_nil]; omega
      rw [ew] at this
      exact this

def LpE (z : List Int) (h : Addr) (E : DEnds) (st : List (List Code)) (p rest : List Int) (n : Nat) (μ : Mu) : Prop := ∀ (items : List D) o5 o6 o7 o8, rest.length < items.length → forD (gdName 5) duStep (fun _ => True) E items (DF9 z h ((1 + empt st : Nat)) (n : Nat) (p.length : Nat) o5 o6 o7 o8) μ
theorem lp_skip {z : List Int} {h : Addr} {E : DEnds} {j p : Int} {c : D} (q : ∀ o5 o6 o7, E.nx (DF9 z h 0 j p o5 o6 o7 (some c)) μ) : ∀ (items : List D) o5 o6 o7, forD (gdName 5) duStep (fun _ => True) E items (DF9 z h 0 j p o5 o6 o7 (some c)) μ
  | [], o5, o6, o7 => ⟨trivial, q _ _ _⟩
  | d :: r, o5, o6, o7 => by
    refine ⟨trivial, ?_⟩
    have step : duStep { E with nx := forD (gdName 5) duStep (fun _ => True) E r, ct := forD (gdName 5) duStep (fun _ => True) E r, bk := E.nx } (DF9 z h 0 j p (some d) o6 o7 (some c)) μ := by
      rw [duStep, DF9]
      walk_at "d"
      rw [if_neg (by simp)]
      exact lp_skip q r _ _ _
    exact step
theorem s_dash : ("-BCI" : Str) = tx [45, 66, 67, 73] := rfl
theorem letter_at {s : Int} (g : 0 < s) (g2 : s ≤ 3) : ∃ c, atI (tx [45, 66, 67, 73]).cps.toList s = some c ∧ codeD (letterOf s) = .str ⟨#[c]⟩ := by
  rw [tx_cps]
  have : s = 1 ∨ s = 2 ∨ s = 3 := by omega
  rcases this with e | e | e
  · subst e; exact ⟨_, atI_1, rfl⟩
  · subst e; exact ⟨_, atI_2, rfl⟩
  · subst e; exact ⟨_, atI_3, rfl⟩
/-- one number -/
theorem lp_turn {z p rest : List Int} {h : Addr} {E : DEnds} {as : List Addr} {st : List (List Code)} {n : Nat} (hz : z = p ++ rest) (hl : z.length ≤ 390) (I : Inv μ0 μ h as st) (hs : small st) (hl2 : as.length ≤ p.length)
    (hb : (∀ s rr, rest = s :: rr → ¬ (0 ≤ s ∧ s ≤ 3)) → E.rt (bad p.length) μ)
    (hm : ∀ rr, rest = 0 :: rr → 120 < n + 1 → E.rt (bad p.length) μ)
    (h0 : ∀ rr, rest = 0 :: rr → ¬ 120 < n + 1 → ∀ a μ', Inv μ0 μ' h (a :: as) ([] :: st) → LpE z h E ([] :: st) (p ++ [0]) rr (n + 1) μ')
    (h1 : ∀ s rr, rest = s :: rr → 0 < s → s ≤ 3 → (cl2 (letterOf s) st).2 = [] → ∀ μ', SubM μ0 μ' → ∀ o5 o6 o7, E.nx (DF9 z h 0 (n : Nat) ((p.length + 1 : Nat) : Int) o5 o6 o7 (some (codeD (cl2 (letterOf s) st).1))) μ')
    (h2 : ∀ s rr, rest = s :: rr → 0 < s → s ≤ 3 → ∀ st'', (cl2 (letterOf s) st).2 = [] :: st'' → ∀ a as' μ', Inv μ0 μ' h (a :: as') ([(cl2 (letterOf s) st).1] :: st'') → LpE z h E ([(cl2 (letterOf s) st).1] :: st'') (p ++ [s]) rr n μ') :
    LpE z h E st p rest n μ := fun items o5 o6 o7 o8 hit => by
  have h3 := line_big
  match items with
  | [] => simp at hit
  | d :: r =>
    simp only [List.length_cons] at hit
    refine ⟨trivial, ?_⟩
    have step : duStep { E with nx := forD (gdName 5) duStep (fun _ => True) E r, ct := forD (gdName 5) duStep (fun _ => True) E r, bk := E.nx } (DF9 z h ((1 + empt st : Nat)) (n : Nat) (p.length : Nat) (some d) o6 o7 o8) μ := by
      rw [duStep, DF9]
      walk_at "d"
      rw [if_pos (by rw [decide_eq_true_eq]; omega)]
      try walk_at "d"
      rw [inD_len]
      cases rest with
      | nil =>
        rw [if_pos (by rw [hz]; simp)]
        exact hb fun s rr e => by cases e
      | cons s rr =>
        have hit2 : rr.length + 1 ≤ r.length := by simp only [List.length_cons] at hit; omega
        have lz : z.length = p.length + (rr.length + 1) := by rw [hz]; simp
        have hz1 : z = (p ++ [s]) ++ rr := by rw [hz]; simp
        have es : atI (inD z) ((p.length : Nat) : Int) = some (.int s) := atI_nat (by rw [hz]; simp [inD])
        have l1 : ((p.length : Nat) : Int) + 1 = (((p ++ [s]).length : Nat) : Int) := by simp
        rw [if_neg (by simp; omega)]
        refine ⟨_, es, ?_⟩
        walk_at "d"
        by_cases g1 : 0 ≤ s
        · rw [if_pos (by simpa using g1)]
          by_cases g2 : s ≤ 3
          · simp only [g2, decide_true, Bool.not_true, Bool.false_eq_true, if_false]
            refine ⟨_, es, ?_⟩
            walk_at "d"
            by_cases g3 : s = 0
            · subst g3
              rw [if_pos (by simp)]
              try walk_at "d"
              by_cases g4 : 120 < n + 1
              · rw [if_pos (by rw [decide_eq_true_eq]; omega)]
                exact hm rr rfl g4
              · rw [if_neg (by rw [decide_eq_true_eq]; omega)]
                simp only [dApp, dNew]
                walk_at "d"
                refine ⟨h, _, rfl, I.mh, fun a ha => ?_⟩
                have nh : h ≠ a := fun z => by rw [← z, I.mh] at ha; cases ha
                refine ⟨_, by rw [put_ne nh]; exact I.mh, by rw [hp_len]; omega, ?_⟩
                have I2 := I.new ha
                simp only [dFor, dRng1]
                walk_at "d"
                rw [gLen_m I2.mh]
                have lh := hp_len (a :: as)
                simp only [List.length_cons] at lh
                refine ⟨_, rfl, by omega, by omega, ?_⟩
                refine w_inner0 (z := z) (h := h) (w := ((1 + empt st : Nat) : Int) + 1) (j := ((n : Nat) : Int) + 1) (p := (p.length : Nat)) (o5 := some d) (o8 := o8) _ _ o7 fun o7' => ?_
                rw [duApp, DF9]
                walk_at "d"
                simp only [isNon]
                walk_at "d"
                rw [duTail]
                walk_at "d"
                rw [if_neg (by simp; omega)]
                have := h0 rr rfl g4 a _ I2 r (some d) (some .non) o7' o8 (by omega)
                have ew : (((1 + empt ([] :: st) : Nat)) : Int) = ((1 + empt st : Nat) : Int) + 1 := by rw [empt_nil]; omega
                rw [ew, ← l1, show ((n + 1 : Nat) : Int) = ((n : Nat) : Int) + 1 by omega] at this
                exact this
            · rw [if_neg (by simpa using g3)]
              have g0 : 0 < s := by omega
              obtain ⟨c, ec, ed⟩ := letter_at g0 g2
              rw [s_dash]
              try walk_at "d"
              refine ⟨_, es, ?_⟩
              walk_at "d"
              refine ⟨by rw [tx_len]; simp only [List.length_cons, List.length_nil]; omega, c, ec, ?_⟩
              rw [← ed]
              have ew : (((1 + empt st : Nat)) : Int) - 1 = ((empt st : Nat) : Int) := by omega
              rw [ew]
              refine w_place (E := { E with nx := forD (gdName 5) duStep (fun _ => True) E r, ct := forD (gdName 5) duStep (fun _ => True) E r, bk := E.nx }) I hs (by omega) (fun e μ' hsub => ?_) fun st'' e a as' μ' I' => ?_
              · intro p5 p6 p7 o eo
                subst eo
                have := h1 s rr rfl g0 g2 e μ' hsub
                rw [show ((p.length + 1 : Nat) : Int) = ((p.length : Nat) : Int) + 1 by omega] at this
                exact lp_skip this r _ _ _
              · intro p5 p6 p7 o _
                have := h2 s rr rfl g0 g2 st'' e a as' μ' I' r p5 p6 p7 o (by omega)
                rw [← l1] at this
                exact this
          · simp only [g2, decide_false, Bool.not_false, if_true]
            exact hb fun s' rr' e => by cases e; exact fun q => g2 q.2
        · rw [if_neg (by simpa using g1)]
          try walk_at "d"
          exact hb fun s' rr' e => by cases e; exact fun q => g1 q.1
    exact step
theorem cl2_nil (c : Code) (st : List (List Code)) : cl2 c ([] :: st) = (c, [] :: st) := rfl
theorem cl2_one (c f : Code) (st : List (List Code)) : cl2 c ([f] :: st) = cl2 (.use f c) st := rfl
theorem due_loop {z : List Int} {h : Addr} {E : DEnds} (hl : z.length ≤ 390) : ∀ (m n : Nat) (p rest : List Int) (as : List Addr) (st : List (List Code)) (μ : Mu), z = p ++ rest → n ≤ 120 → 121 ≤ m + n → as.length ≤ p.length → small st → Inv μ0 μ h as st →
    (∀ e, pr m n rest = .err e → ∀ μ', SubM μ0 μ' → E.rt (bad (z.length - e.length)) μ') →
    (∀ c r n' p', pr m n rest = .ok c r n' → z = p' ++ r → n' ≤ 120 →
      ((cl2 c st).2 = [] → ∀ μ', SubM μ0 μ' → ∀ o5 o6 o7, E.nx (DF9 z h 0 (n' : Nat) (p'.length : Nat) o5 o6 o7 (some (codeD (cl2 c st).1))) μ') ∧
      (∀ st'', (cl2 c st).2 = [] :: st'' → ∀ a as' μ', as'.length + 1 ≤ p'.length → Inv μ0 μ' h (a :: as') ([(cl2 c st).1] :: st'') → LpE z h E ([(cl2 c st).1] :: st'') p' r n' μ')) →
    LpE z h E st p rest n μ
  | 0, n, _, _, _, _, _, _, h0, h1, _, _, _, _, _ => by omega
  | m + 1, n, p, rest, as, st, μ, hz, h0, h1, ha, hs, I, he, hk => by
    have lz : z.length - rest.length = p.length := by rw [hz, List.length_append]; omega
    have lens : ∀ {as' : List Addr} {μ' : Mu} {st' : List (List Code)}, Inv μ0 μ' h as' st' → as'.length = st'.length := fun I => I.len
    refine lp_turn hz hl I hs ha (fun hb => ?_) (fun rr e g => ?_) (fun rr e g a μ' I1 => ?_) (fun s rr e g1 g2 e1 => ?_) fun s rr e g1 g2 st'' e1 a as' μ' I1 => ?_
    · have := he rest (by
        cases rest with
        | nil => rfl
        | cons s rr => simp only [pr]; rw [if_neg (hb s rr rfl)]) μ I.sub
      rw [lz] at this
      exact this
    · have := he rest (by subst e; simp only [pr]; rw [if_pos ⟨by omega, by omega⟩, if_neg (by omega), if_pos g]) μ I.sub
      rw [lz] at this
      exact this
    · subst e
      have hz1 : z = (p ++ [0]) ++ rr := by rw [hz]; simp
      have l1 : (p ++ [(0 : Int)]).length = p.length + 1 := by simp
      have red : pr (m + 1) n (0 :: rr) = match pr m (n + 1) rr with
          | .err e => .err e
          | .ok f l1 n1 => match pr m n1 l1 with
            | .err e => .err e
            | .ok y l2 n2 => .ok (.use f y) l2 n2 := by
        simp only [pr]
        rw [if_pos ⟨by omega, by omega⟩, if_neg (by omega), if_neg g]
        try rfl
      have sm0 : small ([] :: st) := fun s m => by
        rcases List.mem_cons.mp m with m | m
        · rw [m]; simp
        · exact hs s m
      refine due_loop hl m (n + 1) _ rr (a :: as) ([] :: st) μ' hz1 (by omega) (by omega) (by simp only [List.length_cons]; omega) sm0 I1 (fun e q => he e (by rw [red, q])) fun f r1 n1 p1 q hz2 hn1 => ?_
      obtain ⟨e2, e3⟩ := pr_ok _ _ _ _ _ _ q
      have pf := f.pos
      refine ⟨fun z => (by rw [cl2_nil] at z; cases z), fun st1 e4 a1 as1 μ1 hl1 I2 => ?_⟩
      rw [cl2_nil] at e4 I2 ⊢
      cases e4
      refine due_loop hl m n1 p1 r1 (a1 :: as1) ([f] :: st) μ1 hz2 hn1 (by omega) (by simp only [List.length_cons]; omega) (fun s m => ?_) I2 (fun e q2 => he e (by rw [red, q]; simp only [q2])) fun y r2 n2 p2 q2 hz3 hn2 => ?_
      · rcases List.mem_cons.mp m with m | m
        · rw [m]; simp
        · exact hs s m
      · rw [cl2_one]
        exact hk (.use f y) r2 n2 p2 (by rw [red, q]; simp only [q2]) hz3 hn2
    · subst e
      have hz1 : z = (p ++ [s]) ++ rr := by rw [hz]; simp
      have q : pr (m + 1) n (s :: rr) = .ok (letterOf s) rr n := by simp only [pr]; rw [if_pos ⟨by omega, g2⟩, if_pos g1]
      have := (hk (letterOf s) rr n (p ++ [s]) q hz1 h0).1 e1
      rw [show (p ++ [s]).length = p.length + 1 by simp] at this
      exact this
    · subst e
      have hz1 : z = (p ++ [s]) ++ rr := by rw [hz]; simp
      have q : pr (m + 1) n (s :: rr) = .ok (letterOf s) rr n := by simp only [pr]; rw [if_pos ⟨by omega, g2⟩, if_pos g1]
      refine (hk (letterOf s) rr n (p ++ [s]) q hz1 h0).2 st'' e1 a as' μ' ?_ I1
      have k1 := I1.len
      have k2 := I.len
      have : ∀ (c : Code) (st : List (List Code)), (cl2 c st).2.length ≤ st.length := fun c st => by
        induction st generalizing c with
        | nil => exact Nat.le_refl _
        | cons s st ih =>
          match s with
          | [] => exact Nat.le_refl _
          | [f] => have := ih (.use f c); rw [cl2_one, List.length_cons]; omega
          | f :: g :: r => exact Nat.le_refl _
      have := this (letterOf s) st
      rw [e1] at this
      simp only [List.length_cons, List.length_append, List.length_nil] at this k1 ⊢
      omega
end
end Once

namespace Once
open PySem PySem.Spec PyProof.Rows L2
variable {cl : Cs}
local macro_rules | `(tactic| walk_at "d") => `(tactic| simp only [dSeq, dNext, dRet, dRetN, dDrop, dIf, dB, dOp, dVar, dC, dNil, dCons, dTup, dLst, dCall, dSet, dUnp, gdTup_t, gdCons_c, gdName, gdNil_n, dAnd, dOr, dNot, dAndV, dOrV, dNotV, dIfE, dIsi, dIsN, dNotN, dB1, dCut, dNoPart, dPart, dNeg, dChain, dSetF, dMeth, dMake, dFld, dAugF, dAug, bodyF, startD, bodies, dRaise1,
  List.map_cons, List.map_nil, List.length_cons, List.length_nil, Nat.reduceAdd, Nat.reduceSub, List.replicate_succ, List.replicate_zero, List.cons_append, List.nil_append, List.append_nil, Nat.zero_add,
  List.getElem?_cons_zero, List.getElem?_cons_succ, Option.some.injEq, exists_eq_left', exists_eq_left, List.set_cons_zero, List.set_cons_succ, D.bl.injEq, D.int.injEq, D.str.injEq, D.tup.injEq, List.cons.injEq, and_true, true_and, Bool.not_true, Bool.not_false, if_true, if_false, Bool.false_eq_true, reduceCtorEq,
  gAdd_ii, gAdd_ss, gAdd_ll, gSub_ii, gMul_ii, gDiv_ii, gMod_ii, gPow_ii, gInt0_ii, gLt_ii, gLe_ii, gGt_ii, gGe_ii, gEq_ii, gEq_ss, gEq_bb, gNe_ii, gNe_ss, gNe_bb, gIx_t, gIx_s, gIx_l, atI_0, atI_1, atI_2, atI_3, gLen_s, gLen_t, gLen_l, gCut_l, gCut_s, gAbs_i, gIntOf_i, gIn_s, gNotIn_s])



def bnStep (W : Nat → DF) : DS := (dSeq (dSet 4 (dCall (W 15) (dCons (dVar 0) (dCons (dB1 gLen (dCons (dVar 1) dNil)) dNil))))
      (dSeq (dSet 5 (dOp gIx (dLst (dCons (dC (.int 0)) (dCons (dC (.int 1)) (dCons (dC (.int 2)) (dCons (dC (.int 3)) (dCons (dC (.int 4)) (dCons (dNeg (dC (.int 1))) (dCons (dC (.int 79)) (dCons (dOp gPow (dC (.int 10)) (dC (.int 30))) dNil))))))))) (dCall (W 15) (dCons (dVar 0) (dCons (dC (.int 8)) dNil)))))
      (dSet 2 (dOp gAdd (dVar 2) (dLst (dCons (dOp gAdd (dOp gAdd (dCut (dVar 1) dNoPart (dPart (dVar 4))) (dLst (dCons (dVar 5) dNil))) (dCut (dVar 1) (dPart (dOp gAdd (dVar 4) (dC (.int 1)))) dNoPart)) (dCons (dOp gAdd (dCut (dVar 1) dNoPart (dPart (dVar 4))) (dCut (dVar 1) (dPart (dOp gAdd (dVar 4) (dC (.int 1)))) dNoPart)) (dCons (dOp gAdd (dOp gAdd (dCut (dVar 1) dNoPart (dPart (dVar 4))) (dLst (dCons (dVar 5) dNil))) (dCut (dVar 1) (dPart (dVar 4)) dNoPart)) (dCons (dCut (dVar 1) dNoPart (dPart (dVar 4))) dNil)))))))))
theorem bn_is (W : Nat → DF) : b__law_bent cl W = (dSeq (dSet 2 (dLst (dCons (dOp gAdd (dVar 1) (dLst (dCons (dC (.int 0)) dNil))) (dCons (dCut (dVar 1) dNoPart (dPart (dNeg (dC (.int 1))))) (dCons (dCut (dVar 1) (dPart (dC (.int 1))) dNoPart) (dCons (dLst dNil) (dCons (dOp gAdd (dVar 1) (dVar 1)) dNil)))))))
      (dSeq (dFor (dRng1 (dCons (dC (.int 5)) dNil)) (gdName 3) (bnStep W))
      (dRet (dVar 2)))) := rfl
def lw9 (W : Nat → DF) : DS := (dIf (dB (dOp gNe (dCall (W 19) (dCons (dVar 9) dNil)) (dCall (W 20) (dCons (dVar 9) dNil)))) (dRet (dC (.bl false))) dNext)
def lw8 (W : Nat → DF) : DS := (dFor (dIter (dLst (dCons (dVar 8) (dCons (dOp gAdd (dCut (dVar 8) dNoPart (dPart (dNeg (dC (.int 1))))) (dLst (dCons (dOp gMod (dB1 gIntOf (dCons (dB1 gSum (dCons (dCut (dVar 8) dNoPart (dPart (dNeg (dC (.int 1))))) dNil)) dNil)) (dC (.int 251))) dNil))) dNil)))) (gdName 9) (lw9 W))
def lwStep (W : Nat → DF) : DS := (dSeq (dSet 5 (dCall (W 17) (dCons (dVar 1) (dCons (dC (.int 12)) dNil))))
      (dSeq (dSet 6 (dCall (W 21) (dCons (dVar 5) dNil)))
      (dSeq (dSet 7 (dCall (W 8) (dCons (dVar 5) dNil)))
      (dSeq (dIf (dOr (dNot (dB (dIsi isList (dVar 7)))) (dOr (dB (dOp gNeM (dVar 7) (dVar 6))) (dOr (dB (dOp gGt (dB1 gLen (dCons (dComp (dIter (dVar 7)) 10 (dNot (dB (dCall (W 16) (dCons (dVar 10) dNil)))) (dVar 10)) dNil)) (dC (.int 0)))) (dB (dOp gNe (dCall (W 19) (dCons (dVar 7) dNil)) (dTup (dCons (dC (.str "code")) (dCons (dVar 5) dNil)))))))) (dRet (dC (.bl false))) dNext)
      (dSeq (dIf (dOr (dB (dOp gNe (dB1 gRepr (dCons (dCall (W 19) (dCons (dVar 7) dNil)) dNil)) (dB1 gRepr (dCons (dTup (dCons (dC (.str "code")) (dCons (dVar 5) dNil))) dNil)))) (dB (dOp gNe (dCall (W 13) (dCons (dFrz (dCall (W 8) (dCons (dCall (W 5) (dCons (dCall (W 2) (dCons (dVar 5) dNil)) dNil)) dNil))) dNil)) (dVar 5)))) (dRet (dC (.bl false))) dNext)
      (dSeq (dDrop (dApp (dVar 7) (dC (.int 0))))
      (dSeq (dIf (dB (dOp gNe (dFrz (dCall (W 8) (dCons (dVar 5) dNil))) (dVar 6))) (dRet (dC (.bl false))) dNext)
      (dFor (dIter (dCall (W 23) (dCons (dVar 1) (dCons (dVar 6) dNil)))) (gdName 8) (lw8 W)))))))))
def lwEnd (W : Nat → DF) : DS := (dSeq (dSet 3 (dOp gAdd (dC (.int 119)) (dCall (W 15) (dCons (dVar 1) (dCons (dC (.int 4)) dNil)))))
      (dSeq (dSet 4 (dCall (W 21) (dCons (dCall (W 22) (dCons (dVar 1) (dCons (dVar 3) dNil))) dNil)))
      (dSeq (dIf (dOr (dB (dOp gNe (dCall (W 19) (dCons (dVar 4) dNil)) (dCall (W 20) (dCons (dVar 4) dNil)))) (dB (dOp gNe (dOp gEq (dOp gIx (dCall (W 19) (dCons (dVar 4) dNil)) (dC (.int 0))) (dC (.str "bad"))) (dOp gGt (dVar 3) (dC (.int 120)))))) (dRet (dC (.bl false))) dNext)
      (dSeq (dIf (dOr (dB (dOp gNe (dFrz (dCall (W 8) (dCons (dTup (dCons (dTup (dCons (dC (.str "B")) (dCons (dC (.str "C")) dNil))) (dCons (dC (.str "I")) dNil))) dNil))) (dLst (dCons (dC (.int 79)) (dCons (dC (.int 0)) (dCons (dC (.int 0)) (dCons (dC (.int 1)) (dCons (dC (.int 2)) (dCons (dC (.int 3)) (dCons (dC (.int 85)) dNil)))))))))) (dOr (dB (dOp gNe (dCall (W 19) (dCons (dLst (dCons (dC (.int 79)) (dCons (dC (.int 1)) (dCons (dC (.int 80)) dNil)))) dNil)) (dTup (dCons (dC (.str "code")) (dCons (dC (.str "B")) dNil))))) (dB (dOp gNe (dCall (W 19) (dCons (dLst (dCons (dC (.int 79)) (dCons (dC (.int 0)) (dCons (dC (.int 1)) dNil)))) dNil)) (dTup (dCons (dC (.str "bad")) (dCons (dC (.int 3)) dNil))))))) (dRet (dC (.bl false))) dNext)
      (dRet (dAndV (dOp gEq (dCall (W 19) (dCons (dLst (dCons (dC (.int 79)) (dCons (dC (.int 1)) (dCons (dC (.int 81)) dNil)))) dNil)) (dTup (dCons (dC (.str "bad")) (dCons (dC (.int 2)) dNil)))) (dAndV (dOp gEq (dCall (W 19) (dCons (dLst (dCons (dC (.int 78)) (dCons (dC (.int 1)) (dCons (dC (.int 79)) dNil)))) dNil)) (dTup (dCons (dC (.str "bad")) (dCons (dC (.int 0)) dNil)))) (dAndV (dOp gEq (dCall (W 19) (dCons (dLst (dCons (dC (.int 79)) (dCons (dC (.int 4)) dNil))) dNil)) (dTup (dCons (dC (.str "bad")) (dCons (dC (.int 1)) dNil)))) (dOp gEq (dCall (W 19) (dCons (dLst (dCons (dC (.int 79)) (dCons (dC (.int 1)) (dCons (dC (.int 80)) (dCons (dC (.int 0)) dNil))))) dNil)) (dTup (dCons (dC (.str "bad")) (dCons (dC (.int 3)) dNil))))))))))))
theorem lw_is (W : Nat → DF) : b_law cl W = (dSeq (dSet 1 (dCall (W 14) (dCons (dVar 0) dNil)))
      (dSeq (dFor (dRng1 (dCons (dC (.int 4)) dNil)) (gdName 2) (lwStep W))
      (lwEnd W))) := rfl

theorem pr_le : ∀ (m n : Nat) (l : List Int) (c : Code) (r : List Int) (n' : Nat), n ≤ 120 → pr m n l = .ok c r n' → n' ≤ 120 := by
  intro m
  induction m with
  | zero => intro n l c r n' _ h; cases h
  | succ m ih =>
    intro n l c r n' hn h
    cases l with
    | nil => cases h
    | cons s l =>
      simp only [pr] at h
      split at h
      · split at h
        · cases h; exact hn
        · split at h
          · cases h
          · cases h1 : pr m (n + 1) l with
            | err e => rw [h1] at h; cases h
            | ok f l1 n1 =>
              rw [h1] at h
              simp only at h
              cases h2 : pr m n1 l1 with
              | err e => rw [h2] at h; cases h
              | ok y l2 n2 =>
                rw [h2] at h
                cases h
                exact ih n1 l1 y _ _ (ih (n + 1) l f l1 n1 (by omega) h1) h2
      · cases h
theorem bad_ok (i : Nat) : okD (bad i) = true ∧ deepD (bad i) ≤ 130 := by simp [bad, okD, okDs, deepD, deepDs]
theorem codeA_ok {c : Code} (h : c.size ≤ 120) : okD (codeA c) = true ∧ deepD (codeA c) ≤ 130 := by
  have := c.deep_lt
  simp [codeA, okD, okDs, deepD, deepDs, code_ok, code_deep]
  omega
theorem ans_good (z : List Int) : okD (ansN z) = true ∧ deepD (ansN z) ≤ 130 := by
  cases z with
  | nil => exact bad_ok 0
  | cons s l =>
    by_cases h : s = 79
    · have e : ansN (s :: l) = ansT (s :: l) (pr 120 1 l) := by simp [ansN, h]
      rw [e]
      cases q : pr 120 1 l with
      | err e => exact bad_ok _
      | ok c r n' =>
        have h1 := (pr_ok _ _ _ _ _ _ q).2
        have h2 := pr_le _ _ _ _ _ _ (by omega) q
        show okD (endN (s :: l) c r) = true ∧ deepD (endN (s :: l) c r) ≤ 130
        cases r with
        | nil => exact bad_ok _
        | cons s' r =>
          simp only [endN]
          split
          · split
            · exact codeA_ok (by omega)
            · exact bad_ok _
          · exact bad_ok _
    · have e : ansN (s :: l) = bad 0 := by simp [ansN, h]
      rw [e]; exact bad_ok 0
theorem ans_whole (c : Code) : ansN (whole c) = codeA c ∧ c.size ≤ 120 ∨ (∃ i, ansN (whole c) = bad i) ∧ 120 < c.size := by
  have e : ansN (whole c) = ansT (whole c) (pr 120 1 (c.nums ++ [(79 :: c.nums).sum % 251])) := by simp [ansN, whole, checkN]
  by_cases h : c.size ≤ 120
  · refine .inl ⟨?_, h⟩
    have hd := c.deep_lt
    rw [e, pr_nums c 120 1 _ (by omega) (by omega)]
    show endN (whole c) c [_] = _
    simp only [endN]
    have tk : (whole c).take ((whole c).length - (([] : List Int).length + 1)) = 79 :: c.nums := by
      have : (whole c).length - (([] : List Int).length + 1) = (79 :: c.nums).length := by simp [whole, checkN]
      rw [this]; simp [whole, checkN]
    rw [tk, if_pos rfl, if_pos trivial]
  · refine .inr ⟨?_, by omega⟩
    obtain ⟨er, he⟩ := pr_many c 120 1 [(79 :: c.nums).sum % 251] (by omega) (by omega) (by omega)
    rw [e, he]
    exact ⟨_, rfl⟩
section
variable {k : Nat} {μ μ0 : Mu} {x : DXF} {Q : DK}
theorem w_told {z : List Int} {d : D} (hd : d = .lst (inD z) ∨ ∃ a, d = .mref a ∧ μ a = some (.lst (inD z))) (hk : 140 ≤ k) (h : Q (ansN z) μ) : WW cl k 19 [d] μ x Q := by
  obtain ⟨k, rfl⟩ : ∃ j, k = j + 1 := ⟨k - 1, by omega⟩
  have it : itemsOf μ d = some (inD z) := by
    rcases hd with e | ⟨a, e, e2⟩
    · subst e; rfl
    · subst e; simp [itemsOf, seqOf, e2]
  have drd : dr μ d = .lst (inD z) := by
    rcases hd with e | ⟨a, e, e2⟩
    · subst e; rfl
    · subst e; simp [dr, e2]
  have ne : ∀ kk : DK, kk (.bl false) μ → gNeM (.lst (inD z)) d μ kk := fun kk hh => by
    show gNe (.lst (inD z)) (dr μ d) μ kk
    rw [drd]
    have := inD_okL z
    exact gNe_same this.1 (by omega) hh
  rw [u__law_told, b__law_told]
  walk_at "d"
  refine ⟨inD z, it, ?_⟩
  simp only [dTry]
  walk_at "d"
  refine w_code_of_bytes (by omega) (fun c e => ?_) fun i e => .inl ⟨rfl, fun a dd => ?_⟩
  · rw [e] at h
    refine ne _ ⟨_, rfl, ?_⟩
    simp only [Bool.false_eq_true, if_false]
    exact h
  · rw [e] at h
    simp only [dIsE, dXf, b__law_is_whole]
    walk_at "d"
    simp only [D.exc.injEq, true_and, and_assoc, exists_and_left, exists_eq_left', if_true, if_false, Bool.not_true, Bool.not_false, Bool.false_eq_true, fldOf, Option.some.injEq, isInt, isBool, askD]
    refine ne _ ⟨_, rfl, ?_⟩
    simp only [Bool.false_eq_true, if_false]
    exact h
theorem w_due {z : List Int} (hl : z.length ≤ 390) (h : Q (ansN z) μ0) : WW cl (k + 1) 20 [.lst (inD z)] μ0 x Q := by
  have h3 := line_big
  rw [u__law_due, due_is]
  simp only [bodyG, lessF]
  walk_at "d"
  rw [inD_len]
  cases z with
  | nil => exact ⟨μ0, SubM.refl _, h⟩
  | cons s l =>
    rw [if_neg (by simp; omega)]
    refine ⟨.int s, atI_0, ?_⟩
    walk_at "d"
    by_cases g : s = 79
    · subst g
      simp only [beq_self_eq_true, Bool.not_true, Bool.false_eq_true, if_false]
      simp only [dNew, dFor, dRng1]
      walk_at "d"
      intro a ha
      refine ⟨by omega, by omega, ?_⟩
      have I : Inv μ0 (put μ0 a (.lst [])) a [] [] := ⟨fun b o e => by
          have : b ≠ a := fun z => by rw [z, ha] at e; cases e
          rw [put_ne this]; exact e, ha, put_same, trivial⟩
      have ea : ansN (79 :: l) = ansT (79 :: l) (pr 120 1 l) := by simp [ansN]
      have loop := fun (E : DEnds) => due_loop (μ0 := μ0) (z := 79 :: l) (h := a) (E := E) hl 120 1 [79] l [] [] _ rfl (by omega) (by omega) (Nat.zero_le _) (fun _ m => by cases m) I
      refine loop _ (fun e q μ' hs => ?_) (fun c r n' p' q hz hn => ⟨fun _ μ' hs o5 o6 o7 => ?_, fun _ z => (by cases z)⟩) (rngD 0 (400 : Int).toNat) none none none none (by simp [rngD] at hl ⊢; omega)
      · have : ansN (79 :: l) = bad ((79 :: l).length - e.length) := by rw [ea, q]; rfl
        exact ⟨μ0, hs, by rw [← this]; exact h⟩
      · have en : ansN (79 :: l) = endN (79 :: l) c r := by rw [ea, q]; rfl
        have lz : (79 :: l).length = p'.length + r.length := by rw [hz, List.length_append]
        have et : (inD (79 :: l)).take p'.length = inD p' := by rw [hz]; simp [inD]
        show duEnd _ (DF9 (79 :: l) a 0 (n' : Nat) (p'.length : Nat) o5 o6 o7 (some (codeD c))) μ'
        rw [duEnd, DF9]
        walk_at "d"
        rw [inD_len]
        cases r with
        | nil =>
          simp only [List.length_nil] at lz
          rw [if_pos (by simp only [lz]; simp)]
          exact ⟨μ0, hs, by rw [en] at h; have : endN (79 :: l) c [] = bad p'.length := by show bad (79 :: l).length = _; rw [lz]; rfl
                            rw [this] at h; exact h⟩
        | cons s r =>
          have es : atI (inD (79 :: l)) ((p'.length : Nat) : Int) = some (.int s) := atI_nat (by rw [hz]; simp [inD])
          have lr : (79 :: l).length - (r.length + 1) = p'.length := by simp only [List.length_cons] at lz ⊢; omega
          have tk : ((79 : Int) :: l).take ((79 :: l).length - (r.length + 1)) = p' := by rw [lr, hz]; simp
          rw [if_neg (by simp only [beq_iff_eq]; simp only [List.length_cons] at lz ⊢; omega)]
          refine ⟨_, es, ?_⟩
          walk_at "d"
          rw [cutD_pre, et]
          refine gSum_l ?_
          walk_at "d"
          refine ⟨by omega, ?_⟩
          by_cases g2 : s = p'.sum % 251
          · rw [if_neg (by simp [g2])]
            cases r with
            | nil =>
              rw [if_neg (by rw [decide_eq_true_eq]; simp only [List.length_cons, List.length_nil] at lz ⊢; omega)]
              refine ⟨μ0, hs, ?_⟩
              have : endN (79 :: l) c [s] = codeA c := by
                simp only [endN]
                have tk2 : ((79 : Int) :: l).take ((79 :: l).length - (([] : List Int).length + 1)) = p' := tk
                rw [tk2, if_pos g2, if_pos trivial]
              rw [en, this] at h
              exact h
            | cons s' r =>
              rw [if_pos (by rw [decide_eq_true_eq]; simp only [List.length_cons] at lz ⊢; omega)]
              refine ⟨μ0, hs, ?_⟩
              have : endN (79 :: l) c (s :: s' :: r) = bad (p'.length + 1) := by
                simp only [endN]
                rw [tk, if_pos g2, if_neg (by simp)]
                congr 1
                simp only [List.length_cons] at lz ⊢; omega
              rw [en, this] at h
              exact h
          · rw [if_pos (by simpa using g2)]
            refine ⟨μ0, hs, ?_⟩
            have : endN (79 :: l) c (s :: r) = bad p'.length := by
              simp only [endN]
              rw [tk, if_neg g2, lr]
            rw [en, this] at h
            exact h
    · rw [if_pos (by simpa using g)]
      refine ⟨μ0, SubM.refl _, ?_⟩
      have : ansN (s :: l) = bad 0 := by simp [ansN, g]
      rw [this] at h
      exact h
end
end Once

namespace Once
open PySem PySem.Spec PyProof.Rows L2
variable {cl : Cs}
local macro_rules | `(tactic| walk_at "d") => `(tactic| simp only [dSeq, dNext, dRet, dRetN, dDrop, dIf, dB, dOp, dVar, dC, dNil, dCons, dTup, dLst, dCall, dSet, dUnp, gdTup_t, gdCons_c, gdName, gdNil_n, dAnd, dOr, dNot, dAndV, dOrV, dNotV, dIfE, dIsi, dIsN, dNotN, dB1, dCut, dNoPart, dPart, dNeg, dChain, dSetF, dMeth, dMake, dFld, dAugF, dAug, bodyF, startD, bodies, dRaise1,
  List.map_cons, List.map_nil, List.length_cons, List.length_nil, Nat.reduceAdd, Nat.reduceSub, List.replicate_succ, List.replicate_zero, List.cons_append, List.nil_append, List.append_nil, Nat.zero_add,
  List.getElem?_cons_zero, List.getElem?_cons_succ, Option.some.injEq, exists_eq_left', exists_eq_left, List.set_cons_zero, List.set_cons_succ, D.bl.injEq, D.int.injEq, D.str.injEq, D.tup.injEq, List.cons.injEq, and_true, true_and, Bool.not_true, Bool.not_false, if_true, if_false, Bool.false_eq_true, reduceCtorEq,
  gAdd_ii, gAdd_ss, gAdd_ll, gSub_ii, gMul_ii, gDiv_ii, gMod_ii, gPow_ii, gInt0_ii, gLt_ii, gLe_ii, gGt_ii, gGe_ii, gEq_ii, gEq_ss, gEq_bb, gNe_ii, gNe_ss, gNe_bb, gIx_t, gIx_s, gIx_l, atI_0, atI_1, atI_2, atI_3, gLen_s, gLen_t, gLen_l, gCut_l, gCut_s, gAbs_i, gIntOf_i, gIn_s, gNotIn_s])




def lsts (fs : List (List Int)) : List D := fs.map fun f => .lst (inD f)
theorem cut_m1 {z : List Int} : cutD (inD z) none (some (-1)) = inD (z.take (z.length - 1)) := by
  simp only [cutD, HT.sIx, inD_len]
  rw [if_pos (by omega)]
  simp only [List.drop_zero, Nat.sub_zero]
  rw [show ((-1 : Int) + (z.length : Nat)).toNat = z.length - 1 by omega]
  simp [inD, List.map_take]
theorem cut_1 {z : List Int} : cutD (inD z) (some 1) none = inD (z.drop 1) := by
  have := cutD_suf (xs := inD z) (n := 1)
  rw [show ((1 : Nat) : Int) = 1 from rfl] at this
  rw [this]
  simp [inD, List.map_drop]
theorem inD_take (z : List Int) (n : Nat) : (inD z).take n = inD (z.take n) := by simp [inD, List.map_take]
theorem inD_drop (z : List Int) (n : Nat) : (inD z).drop n = inD (z.drop n) := by simp [inD, List.map_drop]
theorem at_some {α : Type} {xs : List α} {r : Int} (h0 : 0 ≤ r) (h1 : r < (xs.length : Nat)) : ∃ y, atI xs r = some y ∧ y ∈ xs := by
  obtain ⟨n, rfl⟩ : ∃ n : Nat, r = n := ⟨r.toNat, by omega⟩
  have hn : n < xs.length := by omega
  exact ⟨xs[n], atI_nat (List.getElem?_eq_getElem hn), List.getElem_mem hn⟩
section
variable {k : Nat} {μ : Mu} {x : DXF} {Q : DK}
theorem w_bnLoop {a : Addr} {E : DEnds} {z : List Int} (hz : 0 < z.length) (hz2 : z.length ≤ 60) (h : ∀ fs μ' o3 o4 o5, (∀ f ∈ fs, List.length f ≤ 150) → FeedAt μ' a → E.nx [some (.mref a), some (.lst (inD z)), some (.lst (lsts fs)), o3, o4, o5] μ') :
    ∀ (items : List D) (fs : List (List Int)) (μ : Mu) (o3 o4 o5 : Option D), (∀ f ∈ fs, List.length f ≤ 150) → fs.length + 5 * items.length ≤ 1000 → FeedAt μ a → forD (gdName 3) (bnStep (WW cl (k + 1))) (fun _ => True) E items [some (.mref a), some (.lst (inD z)), some (.lst (lsts fs)), o3, o4, o5] μ
  | [], fs, μ, o3, o4, o5, hs, hl, hf => ⟨trivial, h fs μ o3 o4 o5 hs hf⟩
  | d :: r, fs, μ, o3, o4, o5, hs, hl, hf => by
    have h3 := line_big
    simp only [List.length_cons] at hl
    refine ⟨trivial, ?_⟩
    have step : bnStep (WW cl (k + 1)) { E with nx := forD (gdName 3) (bnStep (WW cl (k + 1))) (fun _ => True) E r, ct := forD (gdName 3) (bnStep (WW cl (k + 1))) (fun _ => True) E r, bk := E.nx } [some (.mref a), some (.lst (inD z)), some (.lst (lsts fs)), some d, o4, o5] μ := by
      rw [bnStep]
      walk_at "d"
      rw [inD_len]
      refine w_draw hf (by omega) (by omega) fun r1 μ1 r0 r2 hf1 _ => ?_
      walk_at "d"
      refine ⟨⟨by omega, by omega, by decide⟩, ?_⟩
      refine w_draw hf1 (by omega) (by omega) fun r3 μ3 q0 q1 hf3 _ => ?_
      walk_at "d"
      obtain ⟨c, ec, mc⟩ := at_some (xs := [D.int 0, .int 1, .int 2, .int 3, .int 4, .int (-1), .int 79, .int (10 ^ (30 : Int).toNat)]) (r := r3) q0 q1
      obtain ⟨ci, eci⟩ : ∃ ci : Int, c = .int ci := by
        simp only [List.mem_cons, List.not_mem_nil, or_false] at mc
        rcases mc with e | e | e | e | e | e | e | e <;> exact ⟨_, e⟩
      subst eci
      refine ⟨_, ec, ?_⟩
      obtain ⟨n, rfl⟩ : ∃ n : Nat, r1 = n := ⟨r1.toNat, by omega⟩
      have hn : n < z.length := by omega
      have e1 : ((n : Nat) : Int) + 1 = ((n + 1 : Nat) : Int) := by omega
      have hm : min n z.length = n := by omega
      simp only [e1, cutD_pre, cutD_suf, List.length_append, List.length_take, List.length_drop, List.length_cons, List.length_nil, inD_len, hm]
      repeat (refine ⟨by first | omega | (simp only [lsts, List.length_map]; omega), ?_⟩)
      have := w_bnLoop hz hz2 h r (fs ++ [z.take n ++ [ci] ++ z.drop (n + 1), z.take n ++ z.drop (n + 1), z.take n ++ [ci] ++ z.drop n, z.take n]) μ3 (some d) (some (.int (n : Nat))) (some (.int ci)) (fun f m => by
        rcases List.mem_append.mp m with m | m
        · exact hs f m
        · simp only [List.mem_cons, List.not_mem_nil, or_false] at m
          rcases m with m | m | m | m <;> (subst m; simp only [List.length_append, List.length_take, List.length_drop, List.length_cons, List.length_nil]; omega)) (by simp only [List.length_append, List.length_cons, List.length_nil]; omega) hf3
      simp [lsts, inD] at this ⊢
      exact this
    exact step
theorem w_bent {a : Addr} {z : List Int} (hf : FeedAt μ a) (hz : 0 < z.length) (hz2 : z.length ≤ 60) (hq : ∀ fs μ', (∀ f ∈ fs, List.length f ≤ 150) → FeedAt μ' a → Q (.lst (lsts fs)) μ') : WW cl (k + 2) 23 [.mref a, .lst (inD z)] μ x Q := by
  have h3 := line_big
  rw [u__law_bent, bn_is]
  walk_at "d"
  simp only [dFor, dRng1]
  walk_at "d"
  simp only [List.length_append, List.length_cons, List.length_nil, inD_len]
  repeat (refine ⟨by omega, ?_⟩)
  rw [cut_m1, cut_1]
  have := w_bnLoop (k := k) (cl := cl) hz hz2 (a := a) (E := { nx := fun δ μ' => ∃ d, δ[2]? = some (some d) ∧ Q d μ', rt := Q, bk := fun _ _ => False, ct := fun _ _ => False, ex := fun _ c fs μ' => x c fs μ' }) (fun fs μ' o3 o4 o5 hs hf' => ⟨_, rfl, hq fs μ' hs hf'⟩) (rngD 0 (5 : Int).toNat) [z ++ [0], z.take (z.length - 1), z.drop 1, [], z ++ z] μ none none none (fun f m => by
    simp only [List.mem_cons, List.not_mem_nil, or_false] at m
    rcases m with m | m | m | m | m <;> (subst m; simp only [List.length_append, List.length_cons, List.length_nil, List.length_take, List.length_drop]; omega)) (by simp [rngD]) hf
  simp [lsts, inD] at this ⊢
  exact this
/-! ### the law -/
/-- told and due agree -/
theorem w_agree {z : List Int} {δ : Ds} {i : Nat} {X : DX} {kk : Bool → Mu → Prop} (hz : z.length ≤ 390) (hk : 150 ≤ k) (e : δ[i]? = some (some (.lst (inD z)))) (h : kk false μ) :
    (dB (dOp gNe (dCall (WW cl k 19) (dCons (dVar i) dNil)) (dCall (WW cl k 20) (dCons (dVar i) dNil)))) δ μ X kk := by
  walk_at "d"
  refine ⟨_, e, w_told (.inl rfl) (by omega) ⟨_, e, ?_⟩⟩
  obtain ⟨k, rfl⟩ : ∃ j, k = j + 1 := ⟨k - 1, by omega⟩
  refine w_due hz ?_
  have := ans_good z
  exact gNe_same this.1 (by omega) ⟨_, rfl, h⟩
theorem w_lw9 {a : Addr} {E : DEnds} {o0 o2 o3 o4 o5 o6 o7 o8 o10 : Option D} {gs : List D} (hk : 250 ≤ k) :
    ∀ (fs : List (List Int)) (o9 : Option D), (∀ f ∈ fs, List.length f ≤ 390) → (∀ o9, E.nx [o0, some (.mref a), o2, o3, o4, o5, o6, o7, o8, o9, o10] μ) → forD (gdName 9) (lw9 (WW cl k)) (fun μ' => seqOf μ' (.lst gs) = some gs) E (lsts fs) [o0, some (.mref a), o2, o3, o4, o5, o6, o7, o8, o9, o10] μ
  | [], o9, hs, h => ⟨rfl, h o9⟩
  | f :: fs, o9, hs, h => by
    refine ⟨rfl, ?_⟩
    show lw9 (WW cl k) _ [o0, some (.mref a), o2, o3, o4, o5, o6, o7, o8, some (.lst (inD f)), o10] μ
    rw [lw9]
    simp only [dIf]
    have hf := hs f List.mem_cons_self
    refine w_agree (z := f) (i := 9) (by omega) (by omega) rfl ?_
    simp only [Bool.false_eq_true, if_false]
    exact w_lw9 hk fs _ (fun g m => hs g (List.mem_cons_of_mem _ m)) h
theorem w_lw8 {a : Addr} {E : DEnds} {o0 o2 o3 o4 o5 o6 o7 o10 : Option D} {gs : List D} (hk : 250 ≤ k) :
    ∀ (fs : List (List Int)) (o8 o9 : Option D), (∀ f ∈ fs, List.length f ≤ 150) → (∀ o8 o9, E.nx [o0, some (.mref a), o2, o3, o4, o5, o6, o7, o8, o9, o10] μ) → forD (gdName 8) (lw8 (WW cl k)) (fun μ' => seqOf μ' (.lst gs) = some gs) E (lsts fs) [o0, some (.mref a), o2, o3, o4, o5, o6, o7, o8, o9, o10] μ
  | [], o8, o9, hs, h => ⟨rfl, h o8 o9⟩
  | f :: fs, o8, o9, hs, h => by
    have h3 := line_big
    refine ⟨rfl, ?_⟩
    have hf := hs f List.mem_cons_self
    have step : ∀ EE : DEnds, (∀ o9, EE.nx [o0, some (.mref a), o2, o3, o4, o5, o6, o7, some (.lst (inD f)), o9, o10] μ) → lw8 (WW cl k) EE [o0, some (.mref a), o2, o3, o4, o5, o6, o7, some (.lst (inD f)), o9, o10] μ := fun EE hE => by
      rw [lw8]
      simp only [dFor, dIter]
      walk_at "d"
      rw [cut_m1]
      refine gSum_l ?_
      walk_at "d"
      refine ⟨by omega, ?_⟩
      simp only [List.length_cons, List.length_nil, inD_len]
      refine ⟨by simp only [List.length_take]; omega, ?_⟩
      refine ⟨_, rfl, ?_⟩
      have := w_lw9 (k := k) (cl := cl) (μ := μ) (a := a) (E := EE) (o0 := o0) (o2 := o2) (o3 := o3) (o4 := o4) (o5 := o5) (o6 := o6) (o7 := o7) (o8 := some (.lst (inD f))) (o10 := o10) (gs := [.lst (inD f), .lst (inD (f.take (f.length - 1)) ++ [.int ((f.take (f.length - 1)).sum % 251)])]) hk [f, f.take (f.length - 1) ++ [(f.take (f.length - 1)).sum % 251]] o9 (fun g m => by
        simp only [List.mem_cons, List.not_mem_nil, or_false] at m
        rcases m with m | m <;> (subst m; first | omega | (simp only [List.length_append, List.length_take, List.length_cons, List.length_nil]; omega))) hE
      simp [lsts, inD] at this ⊢
      exact this
    exact step _ fun o9 => w_lw8 hk fs _ o9 (fun g m => hs g (List.mem_cons_of_mem _ m)) h

theorem ans_txt (c : Code) : ans c.txt = if c.size ≤ 120 then codeA c else bad c.txt.length := by
  have h := parse_txt c (opens c.txt + 1) [] (by have := deep_opens c; omega)
  rw [List.append_nil] at h
  unfold ans
  rw [h]
  rfl
theorem code_inj {c c2 : Code} (h : codeA c = codeA c2) : codeD c = codeD c2 := by
  unfold codeA at h
  injection h with h
  injection h with _ h
  injection h
theorem code_bulk : ∀ c : Code, (toPy (codeD c)).bulk + 2 ≤ 3 * c.size ∧ (toPy (codeD c)).leavesShort 8 = true ∧ (toPy (codeD c)).showable = true
  | .B => by decide
  | .C => by decide
  | .I => by decide
  | .use f x => by
    have h1 := code_bulk f
    have h2 := code_bulk x
    refine ⟨?_, ?_, ?_⟩
    · simp only [codeD, toPy, toPys, PyData.bulk, PyData.bulkAll, Code.size]; omega
    · simp [codeD, toPy, toPys, PyData.leavesShort, PyData.leavesShortAll, h1, h2]
    · simp [codeD, toPy, toPys, PyData.showable, PyData.showableAll, h1, h2]
theorem gRepr_code {c : Code} {μ : Mu} {k : DK} (hs : c.size ≤ 100) (h : k (.str (reprD (codeA c))) μ) : gRepr [codeA c] μ k := by
  have h3 := line_big
  have hb := code_bulk c
  have hd := c.deep_lt
  have e1 : (toPy (codeA c)).leavesShort 8 = true := by
    have : (toPy (D.str "code")).leavesShort 8 = true := by decide
    simp [codeA, toPy, toPys, PyData.leavesShort, PyData.leavesShortAll, hb] at this ⊢
    exact this
  have e2 : (toPy (codeA c)).showable = true := by simp [codeA, toPy, toPys, PyData.showable, PyData.showableAll, hb]
  have e3 : (toPy (codeA c)).bulk ≤ 400 := by
    have : (("code" : Str)).cps.size = 4 := by decide
    simp only [codeA, toPy, toPys, PyData.bulk, PyData.bulkAll, this]; omega
  rw [gRepr_d]
  refine ⟨by simp [codeA, okD, okDs, code_ok], e2, by simp [codeA, deepD, deepDs, code_deep]; omega, ?_, h⟩
  have := PyData.shown_le_bulk 8 (Nat.le_refl _) _ e1
  show (toPy (codeA c)).shown.length ≤ _
  omega
theorem w_is_whole {i : Int} (h : Q (.bl true) μ) : WW cl (k + 1) 16 [.int i] μ x Q := by
  rw [u__law_is_whole, b__law_is_whole]
  walk_at "d"
  simp only [isInt, isBool, askD]
  walk_at "d"
  exact h
/-- no entry is odd -/
theorem w_none {δ : Ds} {st : Mu → Prop} {b : Addr} {kk : List D → Mu → Prop} (hδ : ∀ d, (δ.set 10 d)[10]? = some d) (hb : μ b = none) (hst : st μ) (h : kk [] μ) : ∀ z : List Int, compD 10 (dNot (dB (dCall (WW cl (k + 1) 16) (dCons (dVar 10) dNil)))) (dVar 10) δ st b kk (inD z) [] μ
  | [] => ⟨hst, h⟩
  | i :: z => by
    refine ⟨hst, ?_⟩
    walk_at "d"
    refine ⟨_, hδ _, w_is_whole ⟨_, rfl, ?_⟩⟩
    exact ⟨μ, rfl, hb, w_none hδ hb hst h z⟩
theorem w_lwStep {a : Addr} {E : DEnds} {o0 o2 o3 o4 o5 o6 o7 o8 o9 o10 : Option D} (hk : 290 ≤ k) (hf : FeedAt μ a) (h : ∀ μ' o5 o6 o7 o8 o9, FeedAt μ' a → E.nx [o0, some (.mref a), o2, o3, o4, o5, o6, o7, o8, o9, o10] μ') :
    lwStep (WW cl k) E [o0, some (.mref a), o2, o3, o4, o5, o6, o7, o8, o9, o10] μ := by
  obtain ⟨k, rfl⟩ : ∃ j, k = j + 3 := ⟨k - 3, by omega⟩
  have h3 := line_big
  rw [lwStep]
  walk_at "d"
  refine w_some_code (k := k + 1) hf fun c μ1 hs hf1 => ?_
  have hd := c.deep_lt
  have hl := c.txt_len
  have hp := c.pos
  have hw := whole_len c
  have ho : opens c.txt ≤ c.txt.length := List.count_le_length
  refine w_whole (by omega) (by omega) ?_
  try walk_at "d"
  refine w_bytes_of_code (by omega) (by omega) fun b hb => ?_
  have nab := hf1.ne hb
  have hf2 : FeedAt (put μ1 b (.lst (inD (whole c)))) a := hf1.put_other nab
  generalize hμ2 : put μ1 b (.lst (inD (whole c))) = μ2 at hf2 ⊢
  have eb : μ2 b = some (.lst (inD (whole c))) := by rw [← hμ2, put_same]
  have okW := inD_okL (whole c)
  have eaw : ansN (whole c) = codeA c := by
    rcases ans_whole c with e | e
    · exact e.1
    · omega
  have okA := codeA_ok (c := c) (by omega)
  try walk_at "d"
  refine ⟨⟨_, eb⟩, ?_⟩
  simp only [isList]
  walk_at "d"
  have edr : dr μ2 (.mref b) = .lst (inD (whole c)) := by simp [dr, eb]
  have ne1 : ∀ kk : DK, kk (.bl false) μ2 → gNeM (.mref b) (.lst (inD (whole c))) μ2 kk := fun kk hh => by
    show gNe (dr μ2 (.mref b)) (.lst (inD (whole c))) μ2 kk
    rw [edr]
    exact gNe_same okW.1 (by omega) hh
  refine ne1 _ ⟨_, rfl, ?_⟩
  simp only [Bool.false_eq_true, if_false]
  simp only [dComp, dIter]
  walk_at "d"
  refine ⟨inD (whole c), by simp [seqOf, eb], fun b2 hb2 => ?_⟩
  refine w_none (k := k + 2) (fun d => rfl) hb2 (by simp [seqOf, eb]) ?_ _
  walk_at "d"
  rw [if_neg (by simp)]
  refine w_told (.inr ⟨b, rfl, eb⟩) (by omega) ?_
  rw [eaw]
  refine gNe_same okA.1 (by omega) ⟨_, rfl, ?_⟩
  simp only [Bool.false_eq_true, if_false]
  refine w_told (.inr ⟨b, rfl, eb⟩) (by omega) ?_
  rw [eaw]
  refine gRepr_code (by omega) ?_
  refine gRepr_code (by omega) ?_
  rw [gNe_ss]
  refine ⟨_, rfl, ?_⟩
  simp only [beq_self_eq_true, Bool.not_true, Bool.false_eq_true, if_false]
  simp only [dFrz]
  walk_at "d"
  refine w_text c _ _ (by omega) (by omega) ?_
  have eat : ans c.txt = codeA c := by rw [ans_txt, if_pos (by omega)]
  refine w_code_of_text (by omega) (by omega) (fun c2 e2 => ?_) fun i e2 => ?_
  · rw [← code_inj (eat.symm.trans e2)]
    try walk_at "d"
    refine w_bytes_of_code (by omega) (by omega) fun b3 hb3 => ?_
    refine ⟨b3, _, rfl, put_same, ?_⟩
    rw [cut_put hb3]
    refine w_code_of_bytes (by omega) (fun c3 e3 => ?_) fun i e3 => ?_
    · rw [← code_inj (eaw.symm.trans e3)]
      have okc := code_ok c
      have dpc := code_deep c
      refine gNe_same okc (by omega) ⟨_, rfl, ?_⟩
      simp only [Bool.false_eq_true, if_false]
      try walk_at "d"
      simp only [dApp]
      walk_at "d"
      refine ⟨b, _, rfl, eb, ?_⟩
      try walk_at "d"
      refine ⟨_, eb, by rw [inD_len]; omega, ?_⟩
      have hf3 : FeedAt (put μ2 b (.lst (inD (whole c) ++ [.int 0]))) a := hf2.put_other nab
      generalize put μ2 b (.lst (inD (whole c) ++ [.int 0])) = μ3 at hf3 ⊢
      try simp only [dFrz]
      try walk_at "d"
      refine w_bytes_of_code (by omega) (by omega) fun b4 hb4 => ?_
      refine ⟨b4, _, rfl, put_same, ?_⟩
      rw [cut_put hb4]
      refine gNe_same okW.1 (by omega) ⟨_, rfl, ?_⟩
      simp only [Bool.false_eq_true, if_false]
      simp only [dFor, dIter]
      try walk_at "d"
      refine w_bent (k := k + 1) hf3 (by omega) (by omega) fun fs μ4 hfs hf4 => ?_
      refine ⟨lsts fs, rfl, ?_⟩
      refine w_lw8 (k := k + 3) (by omega) fs _ _ hfs fun o8' o9' => ?_
      exact h μ4 _ _ _ _ _ hf4
    · rw [eaw] at e3
      unfold codeA bad at e3
      injection e3 with e3
      injection e3 with e3 _
      injection e3 with e3
      exact absurd e3 (by decide)
  · rw [eat] at e2
    unfold codeA bad at e2
    injection e2 with e2
    injection e2 with e2 _
    injection e2 with e2
    exact absurd e2 (by decide)
theorem w_lwLoop {a : Addr} {E : DEnds} {o0 o3 o4 o10 : Option D} (hk : 290 ≤ k) (h : ∀ μ' o2 o5 o6 o7 o8 o9, FeedAt μ' a → E.nx [o0, some (.mref a), o2, o3, o4, o5, o6, o7, o8, o9, o10] μ') :
    ∀ (items : List D) (μ : Mu) (o2 o5 o6 o7 o8 o9 : Option D), FeedAt μ a → forD (gdName 2) (lwStep (WW cl k)) (fun _ => True) E items [o0, some (.mref a), o2, o3, o4, o5, o6, o7, o8, o9, o10] μ
  | [], μ, o2, o5, o6, o7, o8, o9, hf => ⟨trivial, h μ o2 o5 o6 o7 o8 o9 hf⟩
  | d :: r, μ, o2, o5, o6, o7, o8, o9, hf => ⟨trivial, w_lwStep hk hf fun μ' p5 p6 p7 p8 p9 hf' => w_lwLoop hk h r μ' _ p5 p6 p7 p8 p9 hf'⟩
theorem w_ne {z : List Int} {e : D} {kk : DK} (hk : 150 ≤ k) (he : ansN z = e) (h : kk (.bl false) μ) : WW cl k 19 [.lst (inD z)] μ x fun d μ1 => gNe d e μ1 kk := by
  refine w_told (.inl rfl) (by omega) ?_
  have := ans_good z
  rw [he] at this ⊢
  exact gNe_same this.1 (by omega) h
theorem w_eq {z : List Int} {e : D} {kk : DK} (hk : 150 ≤ k) (he : ansN z = e) (h : kk (.bl true) μ) : WW cl k 19 [.lst (inD z)] μ x fun d μ1 => gEq d e μ1 kk := by
  refine w_told (.inl rfl) (by omega) ?_
  have := ans_good z
  rw [he] at this ⊢
  exact gEq_same this.1 (by omega) h
theorem w_lwEnd {a : Addr} {E : DEnds} {o0 o2 o3 o4 o5 o6 o7 o8 o9 o10 : Option D} (hk : 290 ≤ k) (hf : FeedAt μ a) (h : ∀ μ', E.rt (.bl true) μ') : lwEnd (WW cl k) E [o0, some (.mref a), o2, o3, o4, o5, o6, o7, o8, o9, o10] μ := by
  obtain ⟨k, rfl⟩ : ∃ j, k = j + 3 := ⟨k - 3, by omega⟩
  have h3 := line_big
  rw [lwEnd]
  walk_at "d"
  refine w_draw (k := k + 2) hf (by omega) (by omega) fun r μ1 r0 r1 hf1 _ => ?_
  walk_at "d"
  refine w_long (k := k + 1) hf1 (by omega) (by omega) fun c μ2 hc hf2 => ?_
  have hd := c.deep_lt
  have hp := c.pos
  have hw := whole_len c
  refine w_whole (by omega) (by omega) ?_
  try walk_at "d"
  refine w_told (.inl rfl) (by omega) ?_
  refine w_due (k := k + 2) (by omega) ?_
  have hg := ans_good (whole c)
  refine gNe_same hg.1 (by omega) ⟨_, rfl, ?_⟩
  simp only [Bool.false_eq_true, if_false]
  refine w_told (.inl rfl) (by omega) ?_
  have first : ∀ KK : DK, KK (.bl false) μ2 → (gIx (ansN (whole c)) (.int 0) μ2 fun d μ1 => gEq d (.str "bad") μ1 fun d μ1 => gNe d (.bl (decide (120 < 119 + r))) μ1 KK) := fun KK hK => by
    rcases ans_whole c with ⟨e, hs⟩ | ⟨⟨i, e⟩, hs⟩
    · rw [e, codeA, gIx_t]
      refine ⟨_, atI_0, ?_⟩
      have : decide ((120 : Int) < 119 + r) = false := by rw [decide_eq_false_iff_not]; omega
      rw [gEq_ss, gNe_bb, this]
      exact hK
    · rw [e, bad, gIx_t]
      refine ⟨_, atI_0, ?_⟩
      have : decide ((120 : Int) < 119 + r) = true := by rw [decide_eq_true_eq]; omega
      rw [gEq_ss, gNe_bb, this]
      simpa using hK
  refine first _ ⟨_, rfl, ?_⟩
  simp only [Bool.false_eq_true, if_false]
  simp only [dFrz]
  try walk_at "d"
  refine w_bytes_of_code (c := .use (.use .B .C) .I) (by decide) (by simp only [Code.deep]; omega) fun b hb => ?_
  refine ⟨b, _, rfl, put_same, ?_⟩
  rw [cut_put hb]
  refine gNe_same (d := .lst (inD (whole (.use (.use .B .C) .I)))) (inD_okL _).1 (by have := (inD_okL (whole (.use (.use .B .C) .I))).2; omega) ⟨_, rfl, ?_⟩
  simp only [Bool.false_eq_true, if_false]
  refine w_ne (z := [79, 1, 80]) (e := codeA .B) (by omega) rfl ⟨_, rfl, ?_⟩
  simp only [Bool.false_eq_true, if_false]
  refine w_ne (z := [79, 0, 1]) (e := bad 3) (by omega) rfl ⟨_, rfl, ?_⟩
  simp only [Bool.false_eq_true, if_false]
  refine w_eq (z := [79, 1, 81]) (e := bad 2) (by omega) rfl ⟨_, rfl, ?_⟩
  simp only [if_true]
  refine w_eq (z := [78, 1, 79]) (e := bad 0) (by omega) rfl ⟨_, rfl, ?_⟩
  simp only [if_true]
  refine w_eq (z := [79, 4]) (e := bad 1) (by omega) rfl ⟨_, rfl, ?_⟩
  simp only [if_true]
  refine w_eq (z := [79, 1, 80, 0]) (e := bad 3) (by omega) rfl ?_
  exact h μ2
end
theorem law_holds : ∀ cl, LawD 63 (WW cl 300 24) := fun cl ns hn => by
  rw [u_law, lw_is]
  simp only [bodyG, lessF]
  walk_at "d"
  refine w_feed (k := 298) ns fun a ha => ?_
  simp only [dFor, dRng1]
  try walk_at "d"
  refine ⟨by omega, by omega, ?_⟩
  have hf : FeedAt (put (fun _ => none) a (.lst [.lst (ns.map .int), .int 0, .int 0, .int 1])) a := ⟨ns, 0, 0, 1, put_same, by omega, by omega, by omega, by omega⟩
  refine w_lwLoop (k := 299) (by omega) (fun μ' o2 o5 o6 o7 o8 o9 hf' => ?_) _ _ _ _ _ _ _ _ hf
  exact w_lwEnd (by omega) hf' fun μ' => ⟨μ', SubM.refl _, rfl⟩
end Once

namespace Once
open PySem PySem.Spec PyProof.Rows L2
/-! ## The walk -/
structure Ads where
  f_is_use : Addr
  fd_is_use : FuncData
  f_count_joiners : Addr
  fd_count_joiners : FuncData
  f_text_of_code : Addr
  fd_text_of_code : FuncData
  f_taken : Addr
  fd_taken : FuncData
  f_code_from : Addr
  fd_code_from : FuncData
  f_code_of_text : Addr
  fd_code_of_text : FuncData
  f_checked : Addr
  fd_checked : FuncData
  f_code_numbers : Addr
  fd_code_numbers : FuncData
  f_bytes_of_code : Addr
  fd_bytes_of_code : FuncData
  f_Reader_number : Addr
  fd_Reader_number : FuncData
  f_Reader_check : Addr
  fd_Reader_check : FuncData
  f_Reader_part : Addr
  fd_Reader_part : FuncData
  f_Reader_code : Addr
  fd_Reader_code : FuncData
  f_code_of_bytes : Addr
  fd_code_of_bytes : FuncData
  f__law_feed : Addr
  fd__law_feed : FuncData
  f__law_draw : Addr
  fd__law_draw : FuncData
  f__law_is_whole : Addr
  fd__law_is_whole : FuncData
  f__law_some_code : Addr
  fd__law_some_code : FuncData
  f__law_code_numbers : Addr
  fd__law_code_numbers : FuncData
  f__law_told : Addr
  fd__law_told : FuncData
  f__law_due : Addr
  fd__law_due : FuncData
  f__law_whole : Addr
  fd__law_whole : FuncData
  f__law_long : Addr
  fd__law_long : FuncData
  f__law_bent : Addr
  fd__law_bent : FuncData
  f_law : Addr
  fd_law : FuncData
  c_OnceError : Addr
  c_BadText : Addr
  f_BadText_init : Addr
  fd_BadText_init : FuncData
  c_BadBytes : Addr
  f_BadBytes_init : Addr
  fd_BadBytes_init : FuncData
  c_Reader : Addr
  f_Reader_init : Addr
  fd_Reader_init : FuncData
  t_JOINERS : Addr
def Ads.cl (A : Ads) : Cs := ⟨A.c_Reader⟩
structure Txt (P : Program) (w : World) (K : PySem.W.Frag) (mg : Str → Option Value) (base : Heap) (A : Ads) : Prop where
  F_is_use : Fun K "is_use" "is_use" s_is_use A.f_is_use A.fd_is_use
  k_is_use : PySem.W.keepIn K (.ref A.f_is_use) = true
  bd_is_use : Binds K A.fd_is_use ["code"] []
  g_is_use : mg "is_use" = some (.ref A.f_is_use)
  F_count_joiners : Fun K "count_joiners" "count_joiners" s_count_joiners A.f_count_joiners A.fd_count_joiners
  k_count_joiners : PySem.W.keepIn K (.ref A.f_count_joiners) = true
  bd_count_joiners : Binds K A.fd_count_joiners ["code"] []
  g_count_joiners : mg "count_joiners" = some (.ref A.f_count_joiners)
  F_text_of_code : Fun K "text_of_code" "text_of_code" s_text_of_code A.f_text_of_code A.fd_text_of_code
  k_text_of_code : PySem.W.keepIn K (.ref A.f_text_of_code) = true
  bd_text_of_code : Binds K A.fd_text_of_code ["code"] []
  g_text_of_code : mg "text_of_code" = some (.ref A.f_text_of_code)
  F_taken : Fun K "taken" "taken" s_taken A.f_taken A.fd_taken
  k_taken : PySem.W.keepIn K (.ref A.f_taken) = true
  bd_taken : Binds K A.fd_taken ["text", "at", "allowed"] []
  g_taken : mg "taken" = some (.ref A.f_taken)
  F_code_from : Fun K "code_from" "code_from" s_code_from A.f_code_from A.fd_code_from
  k_code_from : PySem.W.keepIn K (.ref A.f_code_from) = true
  bd_code_from : Binds K A.fd_code_from ["text", "at"] []
  g_code_from : mg "code_from" = some (.ref A.f_code_from)
  F_code_of_text : Fun K "code_of_text" "code_of_text" s_code_of_text A.f_code_of_text A.fd_code_of_text
  k_code_of_text : PySem.W.keepIn K (.ref A.f_code_of_text) = true
  bd_code_of_text : Binds K A.fd_code_of_text ["text"] []
  g_code_of_text : mg "code_of_text" = some (.ref A.f_code_of_text)
  F_checked : Fun K "checked" "checked" s_checked A.f_checked A.fd_checked
  k_checked : PySem.W.keepIn K (.ref A.f_checked) = true
  bd_checked : Binds K A.fd_checked ["numbers"] []
  g_checked : mg "checked" = some (.ref A.f_checked)
  F_code_numbers : Fun K "code_numbers" "code_numbers" s_code_numbers A.f_code_numbers A.fd_code_numbers
  k_code_numbers : PySem.W.keepIn K (.ref A.f_code_numbers) = true
  bd_code_numbers : Binds K A.fd_code_numbers ["code"] []
  g_code_numbers : mg "code_numbers" = some (.ref A.f_code_numbers)
  F_bytes_of_code : Fun K "bytes_of_code" "bytes_of_code" s_bytes_of_code A.f_bytes_of_code A.fd_bytes_of_code
  k_bytes_of_code : PySem.W.keepIn K (.ref A.f_bytes_of_code) = true
  bd_bytes_of_code : Binds K A.fd_bytes_of_code ["code"] []
  g_bytes_of_code : mg "bytes_of_code" = some (.ref A.f_bytes_of_code)
  F_Reader_number : Fun K "number" "Reader.number" s_Reader_number A.f_Reader_number A.fd_Reader_number
  k_Reader_number : PySem.W.keepIn K (.ref A.f_Reader_number) = true
  bd_Reader_number : Binds K A.fd_Reader_number ["self", "least", "most"] []
  me_Reader_number : Meth K A.c_Reader "number" A.f_Reader_number
  F_Reader_check : Fun K "check" "Reader.check" s_Reader_check A.f_Reader_check A.fd_Reader_check
  k_Reader_check : PySem.W.keepIn K (.ref A.f_Reader_check) = true
  bd_Reader_check : Binds K A.fd_Reader_check ["self"] []
  me_Reader_check : Meth K A.c_Reader "check" A.f_Reader_check
  F_Reader_part : Fun K "part" "Reader.part" s_Reader_part A.f_Reader_part A.fd_Reader_part
  k_Reader_part : PySem.W.keepIn K (.ref A.f_Reader_part) = true
  bd_Reader_part : Binds K A.fd_Reader_part ["self", "most"] []
  me_Reader_part : Meth K A.c_Reader "part" A.f_Reader_part
  F_Reader_code : Fun K "code" "Reader.code" s_Reader_code A.f_Reader_code A.fd_Reader_code
  k_Reader_code : PySem.W.keepIn K (.ref A.f_Reader_code) = true
  bd_Reader_code : Binds K A.fd_Reader_code ["self"] []
  me_Reader_code : Meth K A.c_Reader "code" A.f_Reader_code
  F_code_of_bytes : Fun K "code_of_bytes" "code_of_bytes" s_code_of_bytes A.f_code_of_bytes A.fd_code_of_bytes
  k_code_of_bytes : PySem.W.keepIn K (.ref A.f_code_of_bytes) = true
  bd_code_of_bytes : Binds K A.fd_code_of_bytes ["numbers"] []
  g_code_of_bytes : mg "code_of_bytes" = some (.ref A.f_code_of_bytes)
  F__law_feed : Fun K "_law_feed" "_law_feed" s__law_feed A.f__law_feed A.fd__law_feed
  k__law_feed : PySem.W.keepIn K (.ref A.f__law_feed) = true
  bd__law_feed : Binds K A.fd__law_feed ["script"] []
  g__law_feed : mg "_law_feed" = some (.ref A.f__law_feed)
  F__law_draw : Fun K "_law_draw" "_law_draw" s__law_draw A.f__law_draw A.fd__law_draw
  k__law_draw : PySem.W.keepIn K (.ref A.f__law_draw) = true
  bd__law_draw : Binds K A.fd__law_draw ["feed", "many"] []
  g__law_draw : mg "_law_draw" = some (.ref A.f__law_draw)
  F__law_is_whole : Fun K "_law_is_whole" "_law_is_whole" s__law_is_whole A.f__law_is_whole A.fd__law_is_whole
  k__law_is_whole : PySem.W.keepIn K (.ref A.f__law_is_whole) = true
  bd__law_is_whole : Binds K A.fd__law_is_whole ["x"] []
  g__law_is_whole : mg "_law_is_whole" = some (.ref A.f__law_is_whole)
  F__law_some_code : Fun K "_law_some_code" "_law_some_code" s__law_some_code A.f__law_some_code A.fd__law_some_code
  k__law_some_code : PySem.W.keepIn K (.ref A.f__law_some_code) = true
  bd__law_some_code : Binds K A.fd__law_some_code ["feed", "most"] []
  g__law_some_code : mg "_law_some_code" = some (.ref A.f__law_some_code)
  F__law_code_numbers : Fun K "_law_code_numbers" "_law_code_numbers" s__law_code_numbers A.f__law_code_numbers A.fd__law_code_numbers
  k__law_code_numbers : PySem.W.keepIn K (.ref A.f__law_code_numbers) = true
  bd__law_code_numbers : Binds K A.fd__law_code_numbers ["code"] []
  g__law_code_numbers : mg "_law_code_numbers" = some (.ref A.f__law_code_numbers)
  F__law_told : Fun K "_law_told" "_law_told" s__law_told A.f__law_told A.fd__law_told
  k__law_told : PySem.W.keepIn K (.ref A.f__law_told) = true
  bd__law_told : Binds K A.fd__law_told ["numbers"] []
  g__law_told : mg "_law_told" = some (.ref A.f__law_told)
  F__law_due : Fun K "_law_due" "_law_due" s__law_due A.f__law_due A.fd__law_due
  k__law_due : PySem.W.keepIn K (.ref A.f__law_due) = true
  bd__law_due : Binds K A.fd__law_due ["numbers"] []
  g__law_due : mg "_law_due" = some (.ref A.f__law_due)
  F__law_whole : Fun K "_law_whole" "_law_whole" s__law_whole A.f__law_whole A.fd__law_whole
  k__law_whole : PySem.W.keepIn K (.ref A.f__law_whole) = true
  bd__law_whole : Binds K A.fd__law_whole ["code"] []
  g__law_whole : mg "_law_whole" = some (.ref A.f__law_whole)
  F__law_long : Fun K "_law_long" "_law_long" s__law_long A.f__law_long A.fd__law_long
  k__law_long : PySem.W.keepIn K (.ref A.f__law_long) = true
  bd__law_long : Binds K A.fd__law_long ["feed", "many"] []
  g__law_long : mg "_law_long" = some (.ref A.f__law_long)
  F__law_bent : Fun K "_law_bent" "_law_bent" s__law_bent A.f__law_bent A.fd__law_bent
  k__law_bent : PySem.W.keepIn K (.ref A.f__law_bent) = true
  bd__law_bent : Binds K A.fd__law_bent ["feed", "numbers"] []
  g__law_bent : mg "_law_bent" = some (.ref A.f__law_bent)
  F_law : Fun K "law" "law" s_law A.f_law A.fd_law
  k_law : PySem.W.keepIn K (.ref A.f_law) = true
  bd_law : Binds K A.fd_law ["script"] []
  g_law : mg "law" = some (.ref A.f_law)
  F_Reader_init : Fun K "__init__" "Reader.__init__" s_Reader_init A.f_Reader_init A.fd_Reader_init
  bd_Reader_init : Binds K A.fd_Reader_init ["self", "numbers"] []
  g_Reader : mg "Reader" = some (.ref A.c_Reader)
  mk_Reader : Mk K A.c_Reader A.f_Reader_init
  cl_Reader : Cls K A.c_Reader
  na_Reader_numbers : NoAttr K A.c_Reader "numbers"
  na_Reader_at : NoAttr K A.c_Reader "at"
  na_Reader_parts : NoAttr K A.c_Reader "parts"
  gt_JOINERS : mg "JOINERS" = some (.ref A.t_JOINERS)
  kt_JOINERS : KTup K A.t_JOINERS ((["B", "C", "I"] : List Str).map V.str)
  z_abs : mg "abs" = none
  z_bool : mg "bool" = none
  z_int : mg "int" = none
  z_isinstance : mg "isinstance" = none
  z_len : mg "len" = none
  z_list : mg "list" = none
  z_range : mg "range" = none
  z_repr : mg "repr" = none
  z_str : mg "str" = none
  z_sum : mg "sum" = none
  z_tuple : mg "tuple" = none
  v_CODE_MARK : ∃ t, mg "CODE_MARK" = some (.int 79 t)
  v_MODULUS : ∃ t, mg "MODULUS" = some (.int 251 t)
  v_MOST_JOINERS : ∃ t, mg "MOST_JOINERS" = some (.int 120 t)
  g_OnceError : mg "OnceError" = some (.ref A.c_OnceError)
  g_BadText : mg "BadText" = some (.ref A.c_BadText)
  g_BadBytes : mg "BadBytes" = some (.ref A.c_BadBytes)
  er_BadBytes : Err1 P w K mg base "BadBytes" "at" A.c_BadBytes A.f_BadBytes_init A.fd_BadBytes_init
  er_BadText : Err1 P w K mg base "BadText" "at" A.c_BadText A.f_BadText_init A.fd_BadText_init
  sub_BadBytes : ∀ (cn : Str) (C : Addr) (b : Bool), mg cn = some (.ref C) → sub_BadBytes cn = some b → PySem.W.exmOne K (.ref C) (.ref A.c_BadBytes) = some b
  xf_BadBytes : XfC K A.c_BadBytes
  ec_BadBytes : ExcC K A.c_BadBytes
  no_BadBytes_at : PySem.W.findIn K (.ref A.c_BadBytes) "at" = some none
  ki_BadBytes_BadText : PySem.W.kitOne K (.ref A.c_BadBytes) (.ref A.c_BadText) = some false
  ki_BadBytes_OnceError : PySem.W.kitOne K (.ref A.c_BadBytes) (.ref A.c_OnceError) = some true
  h__law_is_whole : FnHD P w K mg base 1 A.f__law_is_whole A.fd__law_is_whole ["x"] (bodyF 1 (b__law_is_whole A.cl fun _ => noF))
structure AllD (P : Program) (w : World) (K : PySem.W.Frag) (mg : Str → Option Value) (base : Heap) (A : Ads) (k : Nat) (W : Nat → DF) : Prop where
  d_is_use : FnD P w K mg base k A.f_is_use A.fd_is_use ["code"] (W 0)
  d_count_joiners : FnD P w K mg base k A.f_count_joiners A.fd_count_joiners ["code"] (W 1)
  d_text_of_code : FnD P w K mg base k A.f_text_of_code A.fd_text_of_code ["code"] (W 2)
  d_taken : FnD P w K mg base k A.f_taken A.fd_taken ["text", "at", "allowed"] (W 3)
  d_code_from : FnD P w K mg base k A.f_code_from A.fd_code_from ["text", "at"] (W 4)
  d_code_of_text : FnD P w K mg base k A.f_code_of_text A.fd_code_of_text ["text"] (W 5)
  d_checked : FnD P w K mg base k A.f_checked A.fd_checked ["numbers"] (W 6)
  d_code_numbers : FnD P w K mg base k A.f_code_numbers A.fd_code_numbers ["code"] (W 7)
  d_bytes_of_code : FnD P w K mg base k A.f_bytes_of_code A.fd_bytes_of_code ["code"] (W 8)
  d_Reader_number : FnD P w K mg base k A.f_Reader_number A.fd_Reader_number ["self", "least", "most"] (W 9)
  d_Reader_check : FnD P w K mg base k A.f_Reader_check A.fd_Reader_check ["self"] (W 10)
  d_Reader_part : FnD P w K mg base k A.f_Reader_part A.fd_Reader_part ["self", "most"] (W 11)
  d_Reader_code : FnD P w K mg base k A.f_Reader_code A.fd_Reader_code ["self"] (W 12)
  d_code_of_bytes : FnD P w K mg base k A.f_code_of_bytes A.fd_code_of_bytes ["numbers"] (W 13)
  d__law_feed : FnD P w K mg base k A.f__law_feed A.fd__law_feed ["script"] (W 14)
  d__law_draw : FnD P w K mg base k A.f__law_draw A.fd__law_draw ["feed", "many"] (W 15)
  d__law_is_whole : FnD P w K mg base k A.f__law_is_whole A.fd__law_is_whole ["x"] (W 16)
  d__law_some_code : FnD P w K mg base k A.f__law_some_code A.fd__law_some_code ["feed", "most"] (W 17)
  d__law_code_numbers : FnD P w K mg base k A.f__law_code_numbers A.fd__law_code_numbers ["code"] (W 18)
  d__law_told : FnD P w K mg base k A.f__law_told A.fd__law_told ["numbers"] (W 19)
  d__law_due : FnD P w K mg base k A.f__law_due A.fd__law_due ["numbers"] (W 20)
  d__law_whole : FnD P w K mg base k A.f__law_whole A.fd__law_whole ["code"] (W 21)
  d__law_long : FnD P w K mg base k A.f__law_long A.fd__law_long ["feed", "many"] (W 22)
  d__law_bent : FnD P w K mg base k A.f__law_bent A.fd__law_bent ["feed", "numbers"] (W 23)
  d_law : FnD P w K mg base k A.f_law A.fd_law ["script"] (W 24)
section
variable {P : Program} {w : World} {K : PySem.W.Frag} {mg : Str → Option Value} {base : Heap} {A : Ads} {k : Nat} {W : Nat → DF}
theorem init_Reader (T : Txt P w K mg base A) : FnOk P w K mg base (L2N.CX P w) 1 A.f_Reader_init A.fd_Reader_init ["self", "numbers"] (spD K mg 2 (bodyF 2 (b_Reader_init A.cl fun _ => noF))) := by
  refine T.F_Reader_init.okR (N := N_Reader_init) (b := b_Reader_init A.cl fun _ => noF) sc_Reader_init fun cdv Ar outer s H E hr => ?_
  have tk : L2N.Takes (cxOf (L2N.CX P w) P w K mg base N_Reader_init "Reader.__init__" (defScope s_Reader_init) A.f_Reader_init cdv Ar outer s H E) (fun cls d _ H' => E cls d H') := L2N.takes_of rfl rfl rfl rfl
  exact (qss_cons (qs_setF (qv 1) (qv 0) T.cl_Reader T.na_Reader_numbers)
      (qss_cons (qs_setF q_int (qv 0) T.cl_Reader T.na_Reader_at)
      (qss_one (qs_setF q_int (qv 0) T.cl_Reader T.na_Reader_parts))))
theorem ok_is_use (T : Txt P w K mg base A) (IH : AllD P w K mg base A k W) : FnD P w K mg base (k + 1) A.f_is_use A.fd_is_use ["code"] (bodyF 1 (b_is_use A.cl W)) := by
  refine T.F_is_use.okD (N := N_is_use) (b := b_is_use A.cl W) sc_is_use fun cdv Ar outer s H E hr => ?_
  have tk : L2N.Takes (cxOf (L2N.CX P w) P w K mg base N_is_use "is_use" (defScope s_is_use) A.f_is_use cdv Ar outer s H E) (fun cls d _ H' => E cls d H') := L2N.takes_of rfl rfl rfl rfl
  have hu : Un0 (Ar.deeper (envOfC "is_use" (defScope s_is_use) s.heap.objs.size A.f_is_use cdv)) := hr.un0
  exact (qss_one (qs_ret (q_isi ans_tup rfl T.z_isinstance rfl T.z_tuple (by decide +kernel) (qv 0))))
theorem ok_count_joiners (T : Txt P w K mg base A) (IH : AllD P w K mg base A k W) : FnD P w K mg base (k + 1) A.f_count_joiners A.fd_count_joiners ["code"] (bodyF 1 (b_count_joiners A.cl W)) := by
  refine T.F_count_joiners.okD (N := N_count_joiners) (b := b_count_joiners A.cl W) sc_count_joiners fun cdv Ar outer s H E hr => ?_
  have tk : L2N.Takes (cxOf (L2N.CX P w) P w K mg base N_count_joiners "count_joiners" (defScope s_count_joiners) A.f_count_joiners cdv Ar outer s H E) (fun cls d _ H' => E cls d H') := L2N.takes_of rfl rfl rfl rfl
  have hu : Un0 (Ar.deeper (envOfC "count_joiners" (defScope s_count_joiners) s.heap.objs.size A.f_count_joiners cdv)) := hr.un0
  exact (qss_cons (qs_if (qt (q_call IH.d_is_use hr rfl T.g_is_use T.k_is_use T.bd_is_use tk (qa_cons (qv 0) qa_nil))) (qss_one (qs_ret (q_op oq_add (q_call IH.d_count_joiners hr rfl T.g_count_joiners T.k_count_joiners T.bd_count_joiners tk (qa_cons (q_ix (qv 0) q_int) qa_nil)) (q_call IH.d_count_joiners hr rfl T.g_count_joiners T.k_count_joiners T.bd_count_joiners tk (qa_cons (q_ix (qv 0) q_int) qa_nil))))) qss_nil)
      (qss_one (qs_ret q_int)))
theorem ok_text_of_code (T : Txt P w K mg base A) (IH : AllD P w K mg base A k W) : FnD P w K mg base (k + 1) A.f_text_of_code A.fd_text_of_code ["code"] (bodyF 1 (b_text_of_code A.cl W)) := by
  refine T.F_text_of_code.okD (N := N_text_of_code) (b := b_text_of_code A.cl W) sc_text_of_code fun cdv Ar outer s H E hr => ?_
  have tk : L2N.Takes (cxOf (L2N.CX P w) P w K mg base N_text_of_code "text_of_code" (defScope s_text_of_code) A.f_text_of_code cdv Ar outer s H E) (fun cls d _ H' => E cls d H') := L2N.takes_of rfl rfl rfl rfl
  have hu : Un0 (Ar.deeper (envOfC "text_of_code" (defScope s_text_of_code) s.heap.objs.size A.f_text_of_code cdv)) := hr.un0
  exact (qss_cons (qs_if (qt (q_call IH.d_is_use hr rfl T.g_is_use T.k_is_use T.bd_is_use tk (qa_cons (qv 0) qa_nil))) (qss_one (qs_ret (q_op oq_add (q_op oq_add (q_op oq_add q_str (q_call IH.d_text_of_code hr rfl T.g_text_of_code T.k_text_of_code T.bd_text_of_code tk (qa_cons (q_ix (qv 0) q_int) qa_nil))) (q_call IH.d_text_of_code hr rfl T.g_text_of_code T.k_text_of_code T.bd_text_of_code tk (qa_cons (q_ix (qv 0) q_int) qa_nil))) q_str))) qss_nil)
      (qss_one (qs_ret (qv 0))))
theorem ok_taken (T : Txt P w K mg base A) (IH : AllD P w K mg base A k W) : FnD P w K mg base (k + 1) A.f_taken A.fd_taken ["text", "at", "allowed"] (bodyF 3 (b_taken A.cl W)) := by
  refine T.F_taken.okD (N := N_taken) (b := b_taken A.cl W) sc_taken fun cdv Ar outer s H E hr => ?_
  have tk : L2N.Takes (cxOf (L2N.CX P w) P w K mg base N_taken "taken" (defScope s_taken) A.f_taken cdv Ar outer s H E) (fun cls d _ H' => E cls d H') := L2N.takes_of rfl rfl rfl rfl
  have hu : Un0 (Ar.deeper (envOfC "taken" (defScope s_taken) s.heap.objs.size A.f_taken cdv)) := hr.un0
  exact (qss_cons (qs_if (qt_bool (qw_or (qt_cmp (oq_eq hu) (qv 1) (q_callB cq_len rfl T.z_len (by decide +kernel) (qa_cons (qv 0) qa_nil))) (qw_or1 (qt_cmp (oq_notIn hu) (q_ix (qv 0) (qv 1)) (qv 2))))) (qss_one (qs_raise1 rfl T.er_BadText hr tk rfl (qv 1))) qss_nil)
      (qss_one (qs_ret (q_ix (qv 0) (qv 1)))))
theorem ok_code_from (T : Txt P w K mg base A) (IH : AllD P w K mg base A k W) : FnD P w K mg base (k + 1) A.f_code_from A.fd_code_from ["text", "at"] (bodyF 6 (b_code_from A.cl W)) := by
  refine T.F_code_from.okD (N := N_code_from) (b := b_code_from A.cl W) sc_code_from fun cdv Ar outer s H E hr => ?_
  have tk : L2N.Takes (cxOf (L2N.CX P w) P w K mg base N_code_from "code_from" (defScope s_code_from) A.f_code_from cdv Ar outer s H E) (fun cls d _ H' => E cls d H') := L2N.takes_of rfl rfl rfl rfl
  have hu : Un0 (Ar.deeper (envOfC "code_from" (defScope s_code_from) s.heap.objs.size A.f_code_from cdv)) := hr.un0
  exact (qss_cons (qs_if (qt_cmp (oq_ne hu) (q_call IH.d_taken hr rfl T.g_taken T.k_taken T.bd_taken tk (qa_cons (qv 0) (qa_cons (qv 1) (qa_cons q_str qa_nil)))) q_str) (qss_one (qs_ret (q_tup (qa_cons (q_ix (qv 0) (qv 1)) (qa_cons (q_op oq_add (qv 1) q_int) qa_nil))))) qss_nil)
      (qss_cons (qs_unp rfl (q_call IH.d_code_from hr rfl T.g_code_from T.k_code_from T.bd_code_from tk (qa_cons (qv 0) (qa_cons (q_op oq_add (qv 1) q_int) qa_nil))) (qgs_cons (qg_name (i := 2) sc_code_from.nd rfl (by first | exact Or.inl rfl | exact Or.inr rfl)) (qgs_cons (qg_name (i := 3) sc_code_from.nd rfl (by first | exact Or.inl rfl | exact Or.inr rfl)) qgs_nil)))
      (qss_cons (qs_unp rfl (q_call IH.d_code_from hr rfl T.g_code_from T.k_code_from T.bd_code_from tk (qa_cons (qv 0) (qa_cons (qv 3) qa_nil))) (qgs_cons (qg_name (i := 4) sc_code_from.nd rfl (by first | exact Or.inl rfl | exact Or.inr rfl)) (qgs_cons (qg_name (i := 5) sc_code_from.nd rfl (by first | exact Or.inl rfl | exact Or.inr rfl)) qgs_nil)))
      (qss_cons (qs_expr (q_call IH.d_taken hr rfl T.g_taken T.k_taken T.bd_taken tk (qa_cons (qv 0) (qa_cons (qv 5) (qa_cons q_str qa_nil)))))
      (qss_one (qs_ret (q_tup (qa_cons (q_tup (qa_cons (qv 2) (qa_cons (qv 4) qa_nil))) (qa_cons (q_op oq_add (qv 5) q_int) qa_nil)))))))))
theorem ok_code_of_text (T : Txt P w K mg base A) (IH : AllD P w K mg base A k W) : FnD P w K mg base (k + 1) A.f_code_of_text A.fd_code_of_text ["text"] (bodyF 3 (b_code_of_text A.cl W)) := by
  refine T.F_code_of_text.okD (N := N_code_of_text) (b := b_code_of_text A.cl W) sc_code_of_text fun cdv Ar outer s H E hr => ?_
  have tk : L2N.Takes (cxOf (L2N.CX P w) P w K mg base N_code_of_text "code_of_text" (defScope s_code_of_text) A.f_code_of_text cdv Ar outer s H E) (fun cls d _ H' => E cls d H') := L2N.takes_of rfl rfl rfl rfl
  have hu : Un0 (Ar.deeper (envOfC "code_of_text" (defScope s_code_of_text) s.heap.objs.size A.f_code_of_text cdv)) := hr.un0
  exact (qss_cons (qs_unp rfl (q_call IH.d_code_from hr rfl T.g_code_from T.k_code_from T.bd_code_from tk (qa_cons (qv 0) (qa_cons q_int qa_nil))) (qgs_cons (qg_name (i := 1) sc_code_of_text.nd rfl (by first | exact Or.inl rfl | exact Or.inr rfl)) (qgs_cons (qg_name (i := 2) sc_code_of_text.nd rfl (by first | exact Or.inl rfl | exact Or.inr rfl)) qgs_nil)))
      (qss_cons (qs_if (qt_cmp oq_lt (qv 2) (q_callB cq_len rfl T.z_len (by decide +kernel) (qa_cons (qv 0) qa_nil))) (qss_one (qs_raise1 rfl T.er_BadText hr tk rfl (qv 2))) qss_nil)
      (qss_cons (qs_if (qt_cmp oq_gt (q_call IH.d_count_joiners hr rfl T.g_count_joiners T.k_count_joiners T.bd_count_joiners tk (qa_cons (qv 1) qa_nil)) (qc (pe_glob (v := .int 120) rfl T.v_MOST_JOINERS.choose_spec ⟨_, rfl⟩) fun _ => .int _)) (qss_one (qs_raise1 rfl T.er_BadText hr tk rfl (q_callB cq_len rfl T.z_len (by decide +kernel) (qa_cons (qv 0) qa_nil)))) qss_nil)
      (qss_one (qs_ret (qv 1))))))
theorem ok_checked (T : Txt P w K mg base A) (IH : AllD P w K mg base A k W) : FnD P w K mg base (k + 1) A.f_checked A.fd_checked ["numbers"] (bodyF 1 (b_checked A.cl W)) := by
  refine T.F_checked.okD (N := N_checked) (b := b_checked A.cl W) sc_checked fun cdv Ar outer s H E hr => ?_
  have tk : L2N.Takes (cxOf (L2N.CX P w) P w K mg base N_checked "checked" (defScope s_checked) A.f_checked cdv Ar outer s H E) (fun cls d _ H' => E cls d H') := L2N.takes_of rfl rfl rfl rfl
  have hu : Un0 (Ar.deeper (envOfC "checked" (defScope s_checked) s.heap.objs.size A.f_checked cdv)) := hr.un0
  exact (qss_one (qs_ret (q_op oq_addM (qv 0) (q_lst (qa_cons (q_op oq_mod (q_callB (cq_sum rfl) rfl T.z_sum (by decide +kernel) (qa_cons (qv 0) qa_nil)) (qc (pe_glob (v := .int 251) rfl T.v_MODULUS.choose_spec ⟨_, rfl⟩) fun _ => .int _)) qa_nil)))))
theorem ok_code_numbers (T : Txt P w K mg base A) (IH : AllD P w K mg base A k W) : FnD P w K mg base (k + 1) A.f_code_numbers A.fd_code_numbers ["code"] (bodyF 1 (b_code_numbers A.cl W)) := by
  refine T.F_code_numbers.okD (N := N_code_numbers) (b := b_code_numbers A.cl W) sc_code_numbers fun cdv Ar outer s H E hr => ?_
  have tk : L2N.Takes (cxOf (L2N.CX P w) P w K mg base N_code_numbers "code_numbers" (defScope s_code_numbers) A.f_code_numbers cdv Ar outer s H E) (fun cls d _ H' => E cls d H') := L2N.takes_of rfl rfl rfl rfl
  have hu : Un0 (Ar.deeper (envOfC "code_numbers" (defScope s_code_numbers) s.heap.objs.size A.f_code_numbers cdv)) := hr.un0
  exact (qss_cons (qs_if (qt (q_call IH.d_is_use hr rfl T.g_is_use T.k_is_use T.bd_is_use tk (qa_cons (qv 0) qa_nil))) (qss_one (qs_ret (q_op oq_add (q_op oq_add (q_lst (qa_cons q_int qa_nil)) (q_call IH.d_code_numbers hr rfl T.g_code_numbers T.k_code_numbers T.bd_code_numbers tk (qa_cons (q_ix (qv 0) q_int) qa_nil))) (q_call IH.d_code_numbers hr rfl T.g_code_numbers T.k_code_numbers T.bd_code_numbers tk (qa_cons (q_ix (qv 0) q_int) qa_nil))))) qss_nil)
      (qss_one (qs_ret (q_lst (qa_cons (q_op oq_add q_int (q_kidx (pe_glob (v := .ref A.t_JOINERS) rfl T.gt_JOINERS rfl) T.kt_JOINERS (qv 0))) qa_nil)))))
theorem ok_bytes_of_code (T : Txt P w K mg base A) (IH : AllD P w K mg base A k W) : FnD P w K mg base (k + 1) A.f_bytes_of_code A.fd_bytes_of_code ["code"] (bodyF 1 (b_bytes_of_code A.cl W)) := by
  refine T.F_bytes_of_code.okD (N := N_bytes_of_code) (b := b_bytes_of_code A.cl W) sc_bytes_of_code fun cdv Ar outer s H E hr => ?_
  have tk : L2N.Takes (cxOf (L2N.CX P w) P w K mg base N_bytes_of_code "bytes_of_code" (defScope s_bytes_of_code) A.f_bytes_of_code cdv Ar outer s H E) (fun cls d _ H' => E cls d H') := L2N.takes_of rfl rfl rfl rfl
  have hu : Un0 (Ar.deeper (envOfC "bytes_of_code" (defScope s_bytes_of_code) s.heap.objs.size A.f_bytes_of_code cdv)) := hr.un0
  exact (qss_one (qs_ret (q_call IH.d_checked hr rfl T.g_checked T.k_checked T.bd_checked tk (qa_cons (q_op oq_add (q_lst (qa_cons (qc (pe_glob (v := .int 79) rfl T.v_CODE_MARK.choose_spec ⟨_, rfl⟩) fun _ => .int _) qa_nil)) (q_call IH.d_code_numbers hr rfl T.g_code_numbers T.k_code_numbers T.bd_code_numbers tk (qa_cons (qv 0) qa_nil))) qa_nil))))
theorem ok_Reader_number (T : Txt P w K mg base A) (IH : AllD P w K mg base A k W) : FnD P w K mg base (k + 1) A.f_Reader_number A.fd_Reader_number ["self", "least", "most"] (bodyF 3 (b_Reader_number A.cl W)) := by
  refine T.F_Reader_number.okD (N := N_Reader_number) (b := b_Reader_number A.cl W) sc_Reader_number fun cdv Ar outer s H E hr => ?_
  have tk : L2N.Takes (cxOf (L2N.CX P w) P w K mg base N_Reader_number "Reader.number" (defScope s_Reader_number) A.f_Reader_number cdv Ar outer s H E) (fun cls d _ H' => E cls d H') := L2N.takes_of rfl rfl rfl rfl
  have hu : Un0 (Ar.deeper (envOfC "Reader.number" (defScope s_Reader_number) s.heap.objs.size A.f_Reader_number cdv)) := hr.un0
  exact (qss_cons (qs_if (qt_bool (qw_or (qt_cmp (oq_eq hu) (q_fld (qv 0) T.cl_Reader T.na_Reader_at) (q_callB cq_len rfl T.z_len (by decide +kernel) (qa_cons (q_fld (qv 0) T.cl_Reader T.na_Reader_numbers) qa_nil))) (qw_or1 (qt_not (qt_chain oq_le oq_le (qv 1) (q_ix (q_fld (qv 0) T.cl_Reader T.na_Reader_numbers) (q_fld (qv 0) T.cl_Reader T.na_Reader_at)) (qv 2)))))) (qss_one (qs_raise1 rfl T.er_BadBytes hr tk rfl (q_fld (qv 0) T.cl_Reader T.na_Reader_at))) qss_nil)
      (qss_cons (qs_augF (qv 0) q_int ipq_add T.cl_Reader T.na_Reader_at)
      (qss_one (qs_ret (q_ix (q_fld (qv 0) T.cl_Reader T.na_Reader_numbers) (q_op oq_sub (q_fld (qv 0) T.cl_Reader T.na_Reader_at) q_int))))))
theorem ok_Reader_check (T : Txt P w K mg base A) (IH : AllD P w K mg base A k W) : FnD P w K mg base (k + 1) A.f_Reader_check A.fd_Reader_check ["self"] (bodyF 2 (b_Reader_check A.cl W)) := by
  refine T.F_Reader_check.okD (N := N_Reader_check) (b := b_Reader_check A.cl W) sc_Reader_check fun cdv Ar outer s H E hr => ?_
  have tk : L2N.Takes (cxOf (L2N.CX P w) P w K mg base N_Reader_check "Reader.check" (defScope s_Reader_check) A.f_Reader_check cdv Ar outer s H E) (fun cls d _ H' => E cls d H') := L2N.takes_of rfl rfl rfl rfl
  have hu : Un0 (Ar.deeper (envOfC "Reader.check" (defScope s_Reader_check) s.heap.objs.size A.f_Reader_check cdv)) := hr.un0
  exact (qss_cons (qs_set (i := 1) sc_Reader_check.nd rfl (by first | exact Or.inl rfl | exact Or.inr rfl) (q_op oq_mod (q_callB (cq_sum rfl) rfl T.z_sum (by decide +kernel) (qa_cons (q_cut (q_fld (qv 0) T.cl_Reader T.na_Reader_numbers) qo_none (qo_some (q_fld (qv 0) T.cl_Reader T.na_Reader_at))) qa_nil)) (qc (pe_glob (v := .int 251) rfl T.v_MODULUS.choose_spec ⟨_, rfl⟩) fun _ => .int _)))
      (qss_cons (qs_expr (q_meth (qv 0) T.cl_Reader T.me_Reader_number IH.d_Reader_number hr T.bd_Reader_number tk (qa_cons (qv 1) (qa_cons (qv 1) qa_nil))))
      (qss_one (qs_if (qt_cmp oq_lt (q_fld (qv 0) T.cl_Reader T.na_Reader_at) (q_callB cq_len rfl T.z_len (by decide +kernel) (qa_cons (q_fld (qv 0) T.cl_Reader T.na_Reader_numbers) qa_nil))) (qss_one (qs_raise1 rfl T.er_BadBytes hr tk rfl (q_fld (qv 0) T.cl_Reader T.na_Reader_at))) qss_nil))))
theorem ok_Reader_part (T : Txt P w K mg base A) (IH : AllD P w K mg base A k W) : FnD P w K mg base (k + 1) A.f_Reader_part A.fd_Reader_part ["self", "most"] (bodyF 2 (b_Reader_part A.cl W)) := by
  refine T.F_Reader_part.okD (N := N_Reader_part) (b := b_Reader_part A.cl W) sc_Reader_part fun cdv Ar outer s H E hr => ?_
  have tk : L2N.Takes (cxOf (L2N.CX P w) P w K mg base N_Reader_part "Reader.part" (defScope s_Reader_part) A.f_Reader_part cdv Ar outer s H E) (fun cls d _ H' => E cls d H') := L2N.takes_of rfl rfl rfl rfl
  have hu : Un0 (Ar.deeper (envOfC "Reader.part" (defScope s_Reader_part) s.heap.objs.size A.f_Reader_part cdv)) := hr.un0
  exact (qss_cons (qs_augF (qv 0) q_int ipq_add T.cl_Reader T.na_Reader_parts)
      (qss_one (qs_if (qt_cmp oq_gt (q_fld (qv 0) T.cl_Reader T.na_Reader_parts) (qv 1)) (qss_one (qs_raise1 rfl T.er_BadBytes hr tk rfl (q_op oq_sub (q_fld (qv 0) T.cl_Reader T.na_Reader_at) q_int))) qss_nil)))
theorem ok_Reader_code (T : Txt P w K mg base A) (IH : AllD P w K mg base A k W) : FnD P w K mg base (k + 1) A.f_Reader_code A.fd_Reader_code ["self"] (bodyF 3 (b_Reader_code A.cl W)) := by
  refine T.F_Reader_code.okD (N := N_Reader_code) (b := b_Reader_code A.cl W) sc_Reader_code fun cdv Ar outer s H E hr => ?_
  have tk : L2N.Takes (cxOf (L2N.CX P w) P w K mg base N_Reader_code "Reader.code" (defScope s_Reader_code) A.f_Reader_code cdv Ar outer s H E) (fun cls d _ H' => E cls d H') := L2N.takes_of rfl rfl rfl rfl
  have hu : Un0 (Ar.deeper (envOfC "Reader.code" (defScope s_Reader_code) s.heap.objs.size A.f_Reader_code cdv)) := hr.un0
  exact (qss_cons (qs_set (i := 1) sc_Reader_code.nd rfl (by first | exact Or.inl rfl | exact Or.inr rfl) (q_meth (qv 0) T.cl_Reader T.me_Reader_number IH.d_Reader_number hr T.bd_Reader_number tk (qa_cons q_int (qa_cons (q_callB cq_len rfl T.z_len (by decide +kernel) (qa_cons (q_ktup (pe_glob (v := .ref A.t_JOINERS) rfl T.gt_JOINERS rfl) T.kt_JOINERS) qa_nil)) qa_nil))))
      (qss_cons (qs_if (qt_cmp oq_gt (qv 1) q_int) (qss_one (qs_ret (q_ix (q_ktup (pe_glob (v := .ref A.t_JOINERS) rfl T.gt_JOINERS rfl) T.kt_JOINERS) (q_op oq_sub (qv 1) q_int)))) qss_nil)
      (qss_cons (qs_expr (q_meth (qv 0) T.cl_Reader T.me_Reader_part IH.d_Reader_part hr T.bd_Reader_part tk (qa_cons (qc (pe_glob (v := .int 120) rfl T.v_MOST_JOINERS.choose_spec ⟨_, rfl⟩) fun _ => .int _) qa_nil)))
      (qss_cons (qs_set (i := 2) sc_Reader_code.nd rfl (by first | exact Or.inl rfl | exact Or.inr rfl) (q_meth0 (qv 0) T.cl_Reader T.me_Reader_code IH.d_Reader_code hr T.bd_Reader_code tk))
      (qss_one (qs_ret (q_tup (qa_cons (qv 2) (qa_cons (q_meth0 (qv 0) T.cl_Reader T.me_Reader_code IH.d_Reader_code hr T.bd_Reader_code tk) qa_nil)))))))))
theorem ok_code_of_bytes (T : Txt P w K mg base A) (IH : AllD P w K mg base A k W) : FnD P w K mg base (k + 1) A.f_code_of_bytes A.fd_code_of_bytes ["numbers"] (bodyG 3 (b_code_of_bytes A.cl W)) := by
  refine FnD.less (F := bodyF 3 (b_code_of_bytes A.cl W)) ?_
  refine T.F_code_of_bytes.okD (N := N_code_of_bytes) (b := b_code_of_bytes A.cl W) sc_code_of_bytes fun cdv Ar outer s H E hr => ?_
  have tk : L2N.Takes (cxOf (L2N.CX P w) P w K mg base N_code_of_bytes "code_of_bytes" (defScope s_code_of_bytes) A.f_code_of_bytes cdv Ar outer s H E) (fun cls d _ H' => E cls d H') := L2N.takes_of rfl rfl rfl rfl
  have hu : Un0 (Ar.deeper (envOfC "code_of_bytes" (defScope s_code_of_bytes) s.heap.objs.size A.f_code_of_bytes cdv)) := hr.un0
  exact (qss_cons (qs_set (i := 1) sc_code_of_bytes.nd rfl (by first | exact Or.inl rfl | exact Or.inr rfl) (q_make T.mk_Reader (init_Reader T) (by decide) hr rfl T.g_Reader T.bd_Reader_init tk (qa_cons (qv 0) qa_nil)))
      (qss_cons (qs_expr (q_meth (qv 1) T.cl_Reader T.me_Reader_number IH.d_Reader_number hr T.bd_Reader_number tk (qa_cons (qc (pe_glob (v := .int 79) rfl T.v_CODE_MARK.choose_spec ⟨_, rfl⟩) fun _ => .int _) (qa_cons (qc (pe_glob (v := .int 79) rfl T.v_CODE_MARK.choose_spec ⟨_, rfl⟩) fun _ => .int _) qa_nil))))
      (qss_cons (qs_setF q_int (qv 1) T.cl_Reader T.na_Reader_parts)
      (qss_cons (qs_set (i := 2) sc_code_of_bytes.nd rfl (by first | exact Or.inl rfl | exact Or.inr rfl) (q_meth0 (qv 1) T.cl_Reader T.me_Reader_code IH.d_Reader_code hr T.bd_Reader_code tk))
      (qss_cons (qs_expr (q_meth0 (qv 1) T.cl_Reader T.me_Reader_check IH.d_Reader_check hr T.bd_Reader_check tk))
      (qss_one (qs_ret (qv 2))))))))
theorem ok__law_feed (T : Txt P w K mg base A) (IH : AllD P w K mg base A k W) : FnD P w K mg base (k + 1) A.f__law_feed A.fd__law_feed ["script"] (bodyF 1 (b__law_feed A.cl W)) := by
  refine T.F__law_feed.okD (N := N__law_feed) (b := b__law_feed A.cl W) sc__law_feed fun cdv Ar outer s H E hr => ?_
  have tk : L2N.Takes (cxOf (L2N.CX P w) P w K mg base N__law_feed "_law_feed" (defScope s__law_feed) A.f__law_feed cdv Ar outer s H E) (fun cls d _ H' => E cls d H') := L2N.takes_of rfl rfl rfl rfl
  have hu : Un0 (Ar.deeper (envOfC "_law_feed" (defScope s__law_feed) s.heap.objs.size A.f__law_feed cdv)) := hr.un0
  exact (qss_one (qs_ret (q_new (qa_cons (q_callTy cq_list rfl T.z_list (by decide +kernel) (qa_cons (qv 0) qa_nil)) (qa_cons q_int (qa_cons q_int (qa_cons q_int qa_nil)))))))
theorem ok__law_draw (T : Txt P w K mg base A) (IH : AllD P w K mg base A k W) : FnD P w K mg base (k + 1) A.f__law_draw A.fd__law_draw ["feed", "many"] (bodyF 5 (b__law_draw A.cl W)) := by
  refine T.F__law_draw.okD (N := N__law_draw) (b := b__law_draw A.cl W) sc__law_draw fun cdv Ar outer s H E hr => ?_
  have tk : L2N.Takes (cxOf (L2N.CX P w) P w K mg base N__law_draw "_law_draw" (defScope s__law_draw) A.f__law_draw cdv Ar outer s H E) (fun cls d _ H' => E cls d H') := L2N.takes_of rfl rfl rfl rfl
  have hu : Un0 (Ar.deeper (envOfC "_law_draw" (defScope s__law_draw) s.heap.objs.size A.f__law_draw cdv)) := hr.un0
  exact (qss_cons (qs_if (qt_bool (qw_and (qt_cmp (oq_eq hu) (q_ix (qv 0) q_int) q_int) (qw_and1 (qt_cmp oq_lt (q_ix (qv 0) q_int) (q_callB cq_len rfl T.z_len (by decide +kernel) (qa_cons (q_ix (qv 0) q_int) qa_nil)))))) (qss_cons (qs_set (i := 3) sc__law_draw.nd rfl (by first | exact Or.inl rfl | exact Or.inr rfl) (q_callB cq_abs rfl T.z_abs (by decide +kernel) (qa_cons (q_callTy cq_int rfl T.z_int (by decide +kernel) (qa_cons (q_ix (q_ix (qv 0) q_int) (q_ix (qv 0) q_int)) qa_nil)) qa_nil)))
      (qss_cons (qs_augAt (qv 0) q_int q_int ipq_add)
      (qss_one (qs_if (qt_cmp oq_ge (qv 3) (q_op oq_pow q_int q_int)) (qss_one (qs_setAt (qv 3) (qv 0) q_int)) (qss_one (qs_setAt (q_op oq_mod (q_callTy cq_int rfl T.z_int (by decide +kernel) (qa_cons (q_op oq_add (q_op oq_add (q_op oq_mul (q_ix (qv 0) q_int) q_int) (q_op oq_mul (qv 3) q_int)) (q_ix (qv 0) q_int)) qa_nil)) q_int) (qv 0) q_int)))))) qss_nil)
      (qss_cons (qs_if (qt_cmp oq_gt (q_ix (qv 0) q_int) q_int) (qss_cons (qs_set (i := 4) sc__law_draw.nd rfl (by first | exact Or.inl rfl | exact Or.inr rfl) (q_op oq_mod (q_callTy cq_int rfl T.z_int (by decide +kernel) (qa_cons (q_ix (qv 0) q_int) qa_nil)) (qv 1)))
      (qss_cons (qs_setAt (q_op oq_div (q_ix (qv 0) q_int) (qv 1)) (qv 0) q_int)
      (qss_one (qs_ret (qv 4))))) qss_nil)
      (qss_cons (qs_setAt (q_op oq_mod (q_callTy cq_int rfl T.z_int (by decide +kernel) (qa_cons (q_op oq_add (q_op oq_mul (q_ix (qv 0) q_int) q_int) q_int) qa_nil)) q_int) (qv 0) q_int)
      (qss_cons (qs_set (i := 2) sc__law_draw.nd rfl (by first | exact Or.inl rfl | exact Or.inr rfl) (q_op oq_mod (q_callTy cq_int rfl T.z_int (by decide +kernel) (qa_cons (q_op oq_add (q_op oq_mul (q_ix (qv 0) q_int) (q_ix (qv 0) q_int)) (q_ix (qv 0) q_int)) qa_nil)) q_int))
      (qss_one (qs_ret (q_op oq_mod (q_op oq_div (qv 2) q_int) (qv 1))))))))
theorem ok__law_is_whole (T : Txt P w K mg base A) (IH : AllD P w K mg base A k W) : FnD P w K mg base (k + 1) A.f__law_is_whole A.fd__law_is_whole ["x"] (bodyF 1 (b__law_is_whole A.cl W)) := by
  refine T.F__law_is_whole.okD (N := N__law_is_whole) (b := b__law_is_whole A.cl W) sc__law_is_whole fun cdv Ar outer s H E hr => ?_
  have tk : L2N.Takes (cxOf (L2N.CX P w) P w K mg base N__law_is_whole "_law_is_whole" (defScope s__law_is_whole) A.f__law_is_whole cdv Ar outer s H E) (fun cls d _ H' => E cls d H') := L2N.takes_of rfl rfl rfl rfl
  have hu : Un0 (Ar.deeper (envOfC "_law_is_whole" (defScope s__law_is_whole) s.heap.objs.size A.f__law_is_whole cdv)) := hr.un0
  exact (qss_one (qs_ret (q_and (q_isi ans_int rfl T.z_isinstance rfl T.z_int (by decide +kernel) (qv 0)) (q_one (q_not (q_isi ans_bool rfl T.z_isinstance rfl T.z_bool (by decide +kernel) (qv 0)))))))
theorem ok__law_some_code (T : Txt P w K mg base A) (IH : AllD P w K mg base A k W) : FnD P w K mg base (k + 1) A.f__law_some_code A.fd__law_some_code ["feed", "most"] (bodyF 6 (b__law_some_code A.cl W)) := by
  refine T.F__law_some_code.okD (N := N__law_some_code) (b := b__law_some_code A.cl W) sc__law_some_code fun cdv Ar outer s H E hr => ?_
  have tk : L2N.Takes (cxOf (L2N.CX P w) P w K mg base N__law_some_code "_law_some_code" (defScope s__law_some_code) A.f__law_some_code cdv Ar outer s H E) (fun cls d _ H' => E cls d H') := L2N.takes_of rfl rfl rfl rfl
  have hu : Un0 (Ar.deeper (envOfC "_law_some_code" (defScope s__law_some_code) s.heap.objs.size A.f__law_some_code cdv)) := hr.un0
  exact (qss_cons (qs_setC (n := 2) rfl sc__law_some_code.nd rfl rfl (sw_true rfl rfl rfl (by decide +kernel)) (qi_rng1 rfl T.z_range (qa_cons (q_op oq_add q_int (q_call IH.d__law_draw hr rfl T.g__law_draw T.k__law_draw T.bd__law_draw tk (qa_cons (qv 0) (qa_cons (qv 1) qa_nil)))) qa_nil)) (blkOk_by (own := [("k", 4)]) (N := N__law_some_code) (sc := defScope s__law_some_code) (by decide +kernel)) (fun _ _ _ _ _ => pg_name (i := 4) sc__law_some_code.nd rfl (Or.inl rfl)) (fun _ _ _ _ _ => qts_nil) (fun _ _ _ _ _ => (q_ix (q_lst (qa_cons q_str (qa_cons q_str (qa_cons q_str (qa_cons q_str qa_nil))))) (q_call IH.d__law_draw hr rfl T.g__law_draw T.k__law_draw T.bd__law_draw takesF (qa_cons (qv 0) (qa_cons q_int qa_nil))))))
      (qss_cons (qs_for (passes_of rfl) rfl (qi_rng1 rfl T.z_range (qa_cons (qv 1) qa_nil)) (qg_name (i := 3) sc__law_some_code.nd rfl (by first | exact Or.inl rfl | exact Or.inr rfl)) (qss_one (qs_if (qt_cmp oq_gt (q_callB cq_len rfl T.z_len (by decide +kernel) (qa_cons (qv 2) qa_nil)) q_int) (qss_cons (qs_set (i := 5) sc__law_some_code.nd rfl (by first | exact Or.inl rfl | exact Or.inr rfl) (q_call IH.d__law_draw hr rfl T.g__law_draw T.k__law_draw T.bd__law_draw tk (qa_cons (qv 0) (qa_cons (q_op oq_sub (q_callB cq_len rfl T.z_len (by decide +kernel) (qa_cons (qv 2) qa_nil)) q_int) qa_nil))))
      (qss_cons (qs_if (qt_cmp (oq_eq hu) (q_call IH.d__law_draw hr rfl T.g__law_draw T.k__law_draw T.bd__law_draw tk (qa_cons (qv 0) (qa_cons q_int qa_nil))) q_int) (qss_one (qs_set (i := 5) sc__law_some_code.nd rfl (by first | exact Or.inl rfl | exact Or.inr rfl) q_int)) qss_nil)
      (qss_one (qs_set (i := 2) sc__law_some_code.nd rfl (by first | exact Or.inl rfl | exact Or.inr rfl) (q_op oq_add (q_op oq_add (q_cut (qv 2) qo_none (qo_some (qv 5))) (q_lst (qa_cons (q_tup (qa_cons (q_ix (qv 2) (qv 5)) (qa_cons (q_ix (qv 2) (q_op oq_add (qv 5) q_int)) qa_nil))) qa_nil))) (q_cut (qv 2) (qo_some (q_op oq_add (qv 5) q_int)) qo_none)))))) qss_nil)))
      (qss_one (qs_ret (q_ix (qv 2) q_int)))))
theorem ok__law_code_numbers (T : Txt P w K mg base A) (IH : AllD P w K mg base A k W) : FnD P w K mg base (k + 1) A.f__law_code_numbers A.fd__law_code_numbers ["code"] (bodyF 1 (b__law_code_numbers A.cl W)) := by
  refine T.F__law_code_numbers.okD (N := N__law_code_numbers) (b := b__law_code_numbers A.cl W) sc__law_code_numbers fun cdv Ar outer s H E hr => ?_
  have tk : L2N.Takes (cxOf (L2N.CX P w) P w K mg base N__law_code_numbers "_law_code_numbers" (defScope s__law_code_numbers) A.f__law_code_numbers cdv Ar outer s H E) (fun cls d _ H' => E cls d H') := L2N.takes_of rfl rfl rfl rfl
  have hu : Un0 (Ar.deeper (envOfC "_law_code_numbers" (defScope s__law_code_numbers) s.heap.objs.size A.f__law_code_numbers cdv)) := hr.un0
  exact (qss_cons (qs_if (qt (q_isi ans_str rfl T.z_isinstance rfl T.z_str (by decide +kernel) (qv 0))) (qss_one (qs_ret (q_lst (qa_cons (q_sidx q_str (qv 0)) qa_nil)))) qss_nil)
      (qss_one (qs_ret (q_op oq_add (q_op oq_add (q_lst (qa_cons q_int qa_nil)) (q_call IH.d__law_code_numbers hr rfl T.g__law_code_numbers T.k__law_code_numbers T.bd__law_code_numbers tk (qa_cons (q_ix (qv 0) q_int) qa_nil))) (q_call IH.d__law_code_numbers hr rfl T.g__law_code_numbers T.k__law_code_numbers T.bd__law_code_numbers tk (qa_cons (q_ix (qv 0) q_int) qa_nil))))))
theorem ok__law_told (T : Txt P w K mg base A) (IH : AllD P w K mg base A k W) : FnD P w K mg base (k + 1) A.f__law_told A.fd__law_told ["numbers"] (bodyF 4 (b__law_told A.cl W)) := by
  refine T.F__law_told.okD (N := N__law_told) (b := b__law_told A.cl W) sc__law_told fun cdv Ar outer s H E hr => ?_
  have tk : L2N.Takes (cxOf (L2N.CX P w) P w K mg base N__law_told "_law_told" (defScope s__law_told) A.f__law_told cdv Ar outer s H E) (fun cls d _ H' => E cls d H') := L2N.takes_of rfl rfl rfl rfl
  have hu : Un0 (Ar.deeper (envOfC "_law_told" (defScope s__law_told) s.heap.objs.size A.f__law_told cdv)) := hr.un0
  exact (qss_cons (qs_set (i := 1) sc__law_told.nd rfl (by first | exact Or.inl rfl | exact Or.inr rfl) (q_callTy cq_list rfl T.z_list (by decide +kernel) (qa_cons (qv 0) qa_nil)))
      (qss_cons (qs_try (i := 2) (sub := sub_BadBytes) (su := fun _ a dd => (dSeq (dIf (dOr (dNot (dB (dIsE a "BadBytes" dd true (dVar 2)))) (dOr (dB (dIsE a "BadBytes" dd false (dVar 2))) (dOr (dNot (dB (dCall (bodyF 1 (b__law_is_whole A.cl fun _ => noF)) (dCons (dXf a "BadBytes" dd "at" (dVar 2)) dNil)))) (dB (dOp gNeM (dVar 1) (dVar 0)))))) (dRet (dTup (dCons (dC (.str "error")) (dCons (dC (.int 0)) dNil)))) dNext)
      (dRet (dTup (dCons (dC (.str "bad")) (dCons (dXf a "BadBytes" dd "at" (dVar 2)) dNil)))))) rfl rfl sc__law_told.nd rfl rfl ⟨rfl, by decide, .inl T.g_BadBytes⟩ tk (T.sub_BadBytes)
        (fun Wt pn xe tk2 hp2 => (qss_one (qs_set (i := 3) sc__law_told.nd rfl (by first | exact Or.inl rfl | exact Or.inr rfl) (q_call IH.d_code_of_bytes hr rfl T.g_code_of_bytes T.k_code_of_bytes T.bd_code_of_bytes tk2 (qa_cons (qv 1) qa_nil)))))
        (fun a oe C cn dd pn hm hsb hz hf => by
          obtain rfl := sub_BadBytes_is hsb
          obtain rfl : C = A.c_BadBytes := by have z := hm.symm.trans T.g_BadBytes; cases z; rfl
          exact (qss_cons (qs_if (qt_bool (qw_or (qt_not (qt (q_isE (bb := true) T.ec_BadBytes hz hf T.ki_BadBytes_OnceError rfl T.z_isinstance rfl T.g_OnceError (qv 2)))) (qw_or (qt (q_isE (bb := false) T.ec_BadBytes hz hf T.ki_BadBytes_BadText rfl T.z_isinstance rfl T.g_BadText (qv 2))) (qw_or (qt_not (qt (q_callH T.h__law_is_whole (roomH_suite hr) (hot_suite hz hf) rfl T.g__law_is_whole T.k__law_is_whole T.bd__law_is_whole (qa_cons (q_xf (T.xf_BadBytes) (T.no_BadBytes_at) hz hf (qv 2)) qa_nil)))) (qw_or1 (qt_cmp (oq_neM hu) (qv 1) (qv 0))))))) (qss_one (qs_ret (q_tup (qa_cons q_str (qa_cons q_int qa_nil))))) qss_nil)
      (qss_one (qs_ret (q_tup (qa_cons q_str (qa_cons (q_xf (T.xf_BadBytes) (T.no_BadBytes_at) hz hf (qv 2)) qa_nil))))))))
      (qss_cons (qs_if (qt_cmp (oq_neM hu) (qv 1) (qv 0)) (qss_one (qs_ret (q_tup (qa_cons q_str (qa_cons q_int qa_nil))))) qss_nil)
      (qss_one (qs_ret (q_tup (qa_cons q_str (qa_cons (qv 3) qa_nil))))))))
theorem ok__law_due (T : Txt P w K mg base A) (IH : AllD P w K mg base A k W) : FnD P w K mg base (k + 1) A.f__law_due A.fd__law_due ["numbers"] (bodyG 9 (b__law_due A.cl W)) := by
  refine FnD.less (F := bodyF 9 (b__law_due A.cl W)) ?_
  refine T.F__law_due.okD (N := N__law_due) (b := b__law_due A.cl W) sc__law_due fun cdv Ar outer s H E hr => ?_
  have tk : L2N.Takes (cxOf (L2N.CX P w) P w K mg base N__law_due "_law_due" (defScope s__law_due) A.f__law_due cdv Ar outer s H E) (fun cls d _ H' => E cls d H') := L2N.takes_of rfl rfl rfl rfl
  have hu : Un0 (Ar.deeper (envOfC "_law_due" (defScope s__law_due) s.heap.objs.size A.f__law_due cdv)) := hr.un0
  exact (qss_cons (qs_if (qt_bool (qw_or (qt_cmp (oq_eq hu) (q_callB cq_len rfl T.z_len (by decide +kernel) (qa_cons (qv 0) qa_nil)) q_int) (qw_or1 (qt_cmp (oq_ne hu) (q_ix (qv 0) q_int) q_int)))) (qss_one (qs_ret (q_tup (qa_cons q_str (qa_cons q_int qa_nil))))) qss_nil)
      (qss_cons (qs_set (i := 1) sc__law_due.nd rfl (by first | exact Or.inl rfl | exact Or.inr rfl) q_int)
      (qss_cons (qs_set (i := 2) sc__law_due.nd rfl (by first | exact Or.inl rfl | exact Or.inr rfl) q_int)
      (qss_cons (qs_set (i := 3) sc__law_due.nd rfl (by first | exact Or.inl rfl | exact Or.inr rfl) (q_new qa_nil))
      (qss_cons (qs_set (i := 4) sc__law_due.nd rfl (by first | exact Or.inl rfl | exact Or.inr rfl) q_int)
      (qss_cons (qs_for (passes_of rfl) rfl (qi_rng1 rfl T.z_range (qa_cons q_int qa_nil)) (qg_name (i := 5) sc__law_due.nd rfl (by first | exact Or.inl rfl | exact Or.inr rfl)) (qss_one (qs_if (qt_cmp oq_gt (qv 1) q_int) (qss_cons (qs_if (qt_bool (qw_or (qt_cmp (oq_eq hu) (qv 4) (q_callB cq_len rfl T.z_len (by decide +kernel) (qa_cons (qv 0) qa_nil))) (qw_or1 (qt_not (qt_chain oq_le oq_le q_int (q_ix (qv 0) (qv 4)) q_int))))) (qss_one (qs_ret (q_tup (qa_cons q_str (qa_cons (qv 4) qa_nil))))) qss_nil)
      (qss_cons (qs_set (i := 6) sc__law_due.nd rfl (by first | exact Or.inl rfl | exact Or.inr rfl) q_non)
      (qss_cons (qs_if (qt_cmp (oq_eq hu) (q_ix (qv 0) (qv 4)) q_int) (qss_cons (qs_aug (i := 1) sc__law_due.nd rfl (by first | exact Or.inl rfl | exact Or.inr rfl) q_int ipq_add)
      (qss_cons (qs_aug (i := 2) sc__law_due.nd rfl (by first | exact Or.inl rfl | exact Or.inr rfl) q_int ipq_add)
      (qss_cons (qs_if (qt_cmp oq_gt (qv 2) q_int) (qss_one (qs_ret (q_tup (qa_cons q_str (qa_cons (qv 4) qa_nil))))) qss_nil)
      (qss_one (qs_expr (q_app (qv 3) (q_new qa_nil))))))) (qss_cons (qs_set (i := 6) sc__law_due.nd rfl (by first | exact Or.inl rfl | exact Or.inr rfl) (q_ix q_str (q_ix (qv 0) (qv 4))))
      (qss_one (qs_aug (i := 1) sc__law_due.nd rfl (by first | exact Or.inl rfl | exact Or.inr rfl) q_int ipq_sub))))
      (qss_cons (qs_for (passes_of rfl) rfl (qi_rng1 rfl T.z_range (qa_cons (q_callB cq_len rfl T.z_len (by decide +kernel) (qa_cons (qv 3) qa_nil)) qa_nil)) (qg_name (i := 7) sc__law_due.nd rfl (by first | exact Or.inl rfl | exact Or.inr rfl)) (qss_one (qs_if (qt_bool (qw_and (qt_notN (qv 6)) (qw_and1 (qt_cmp (oq_eq hu) (q_callB cq_len rfl T.z_len (by decide +kernel) (qa_cons (q_ix (qv 3) (q_neg q_int)) qa_nil)) q_int)))) (qss_one (qs_set (i := 6) sc__law_due.nd rfl (by first | exact Or.inl rfl | exact Or.inr rfl) (q_tup (qa_cons (q_ix (q_pop (qv 3)) q_int) (qa_cons (qv 6) qa_nil))))) qss_nil)))
      (qss_cons (qs_if (qt_bool (qw_and (qt_notN (qv 6)) (qw_and1 (qt_cmp oq_gt (q_callB cq_len rfl T.z_len (by decide +kernel) (qa_cons (qv 3) qa_nil)) q_int)))) (qss_cons (qs_expr (q_app (q_ix (qv 3) (q_neg q_int)) (qv 6)))
      (qss_one (qs_set (i := 6) sc__law_due.nd rfl (by first | exact Or.inl rfl | exact Or.inr rfl) q_non))) qss_nil)
      (qss_cons (qs_aug (i := 4) sc__law_due.nd rfl (by first | exact Or.inl rfl | exact Or.inr rfl) q_int ipq_add)
      (qss_one (qs_if (qt_cmp (oq_eq hu) (qv 1) q_int) (qss_one (qs_set (i := 8) sc__law_due.nd rfl (by first | exact Or.inl rfl | exact Or.inr rfl) (qv 6))) qss_nil)))))))) qss_nil)))
      (qss_cons (qs_if (qt_bool (qw_or (qt_cmp (oq_eq hu) (qv 4) (q_callB cq_len rfl T.z_len (by decide +kernel) (qa_cons (qv 0) qa_nil))) (qw_or1 (qt_cmp (oq_ne hu) (q_ix (qv 0) (qv 4)) (q_op oq_mod (q_callTy cq_int rfl T.z_int (by decide +kernel) (qa_cons (q_callB (cq_sum rfl) rfl T.z_sum (by decide +kernel) (qa_cons (q_cut (qv 0) qo_none (qo_some (qv 4))) qa_nil)) qa_nil)) q_int))))) (qss_one (qs_ret (q_tup (qa_cons q_str (qa_cons (qv 4) qa_nil))))) qss_nil)
      (qss_cons (qs_if (qt_cmp oq_lt (q_op oq_add (qv 4) q_int) (q_callB cq_len rfl T.z_len (by decide +kernel) (qa_cons (qv 0) qa_nil))) (qss_one (qs_ret (q_tup (qa_cons q_str (qa_cons (q_op oq_add (qv 4) q_int) qa_nil))))) qss_nil)
      (qss_one (qs_ret (q_tup (qa_cons q_str (qa_cons (qv 8) qa_nil)))))))))))))
theorem ok__law_whole (T : Txt P w K mg base A) (IH : AllD P w K mg base A k W) : FnD P w K mg base (k + 1) A.f__law_whole A.fd__law_whole ["code"] (bodyF 2 (b__law_whole A.cl W)) := by
  refine T.F__law_whole.okD (N := N__law_whole) (b := b__law_whole A.cl W) sc__law_whole fun cdv Ar outer s H E hr => ?_
  have tk : L2N.Takes (cxOf (L2N.CX P w) P w K mg base N__law_whole "_law_whole" (defScope s__law_whole) A.f__law_whole cdv Ar outer s H E) (fun cls d _ H' => E cls d H') := L2N.takes_of rfl rfl rfl rfl
  have hu : Un0 (Ar.deeper (envOfC "_law_whole" (defScope s__law_whole) s.heap.objs.size A.f__law_whole cdv)) := hr.un0
  exact (qss_cons (qs_set (i := 1) sc__law_whole.nd rfl (by first | exact Or.inl rfl | exact Or.inr rfl) (q_op oq_add (q_lst (qa_cons q_int qa_nil)) (q_call IH.d__law_code_numbers hr rfl T.g__law_code_numbers T.k__law_code_numbers T.bd__law_code_numbers tk (qa_cons (qv 0) qa_nil))))
      (qss_one (qs_ret (q_op oq_add (qv 1) (q_lst (qa_cons (q_op oq_mod (q_callTy cq_int rfl T.z_int (by decide +kernel) (qa_cons (q_callB (cq_sum rfl) rfl T.z_sum (by decide +kernel) (qa_cons (qv 1) qa_nil)) qa_nil)) q_int) qa_nil))))))
theorem ok__law_long (T : Txt P w K mg base A) (IH : AllD P w K mg base A k W) : FnD P w K mg base (k + 1) A.f__law_long A.fd__law_long ["feed", "many"] (bodyF 5 (b__law_long A.cl W)) := by
  refine T.F__law_long.okD (N := N__law_long) (b := b__law_long A.cl W) sc__law_long fun cdv Ar outer s H E hr => ?_
  have tk : L2N.Takes (cxOf (L2N.CX P w) P w K mg base N__law_long "_law_long" (defScope s__law_long) A.f__law_long cdv Ar outer s H E) (fun cls d _ H' => E cls d H') := L2N.takes_of rfl rfl rfl rfl
  have hu : Un0 (Ar.deeper (envOfC "_law_long" (defScope s__law_long) s.heap.objs.size A.f__law_long cdv)) := hr.un0
  exact (qss_cons (qs_set (i := 2) sc__law_long.nd rfl (by first | exact Or.inl rfl | exact Or.inr rfl) q_str)
      (qss_cons (qs_for (passes_of rfl) rfl (qi_rng1 rfl T.z_range (qa_cons (q_op oq_sub (qv 1) q_int) qa_nil)) (qg_name (i := 3) sc__law_long.nd rfl (by first | exact Or.inl rfl | exact Or.inr rfl)) (qss_cons (qs_set (i := 4) sc__law_long.nd rfl (by first | exact Or.inl rfl | exact Or.inr rfl) (q_ix (q_lst (qa_cons q_str (qa_cons q_str (qa_cons q_str qa_nil)))) (q_call IH.d__law_draw hr rfl T.g__law_draw T.k__law_draw T.bd__law_draw tk (qa_cons (qv 0) (qa_cons q_int qa_nil)))))
      (qss_one (qs_set (i := 2) sc__law_long.nd rfl (by first | exact Or.inl rfl | exact Or.inr rfl) (q_ix (q_lst (qa_cons (q_tup (qa_cons (qv 2) (qa_cons (qv 4) qa_nil))) (qa_cons (q_tup (qa_cons (qv 4) (qa_cons (qv 2) qa_nil))) qa_nil))) (q_call IH.d__law_draw hr rfl T.g__law_draw T.k__law_draw T.bd__law_draw tk (qa_cons (qv 0) (qa_cons q_int qa_nil))))))))
      (qss_one (qs_ret (qv 2)))))
theorem ok__law_bent (T : Txt P w K mg base A) (IH : AllD P w K mg base A k W) : FnD P w K mg base (k + 1) A.f__law_bent A.fd__law_bent ["feed", "numbers"] (bodyF 6 (b__law_bent A.cl W)) := by
  refine T.F__law_bent.okD (N := N__law_bent) (b := b__law_bent A.cl W) sc__law_bent fun cdv Ar outer s H E hr => ?_
  have tk : L2N.Takes (cxOf (L2N.CX P w) P w K mg base N__law_bent "_law_bent" (defScope s__law_bent) A.f__law_bent cdv Ar outer s H E) (fun cls d _ H' => E cls d H') := L2N.takes_of rfl rfl rfl rfl
  have hu : Un0 (Ar.deeper (envOfC "_law_bent" (defScope s__law_bent) s.heap.objs.size A.f__law_bent cdv)) := hr.un0
  exact (qss_cons (qs_set (i := 2) sc__law_bent.nd rfl (by first | exact Or.inl rfl | exact Or.inr rfl) (q_lst (qa_cons (q_op oq_add (qv 1) (q_lst (qa_cons q_int qa_nil))) (qa_cons (q_cut (qv 1) qo_none (qo_some (q_neg q_int))) (qa_cons (q_cut (qv 1) (qo_some q_int) qo_none) (qa_cons (q_lst qa_nil) (qa_cons (q_op oq_add (qv 1) (qv 1)) qa_nil)))))))
      (qss_cons (qs_for (passes_of rfl) rfl (qi_rng1 rfl T.z_range (qa_cons q_int qa_nil)) (qg_name (i := 3) sc__law_bent.nd rfl (by first | exact Or.inl rfl | exact Or.inr rfl)) (qss_cons (qs_set (i := 4) sc__law_bent.nd rfl (by first | exact Or.inl rfl | exact Or.inr rfl) (q_call IH.d__law_draw hr rfl T.g__law_draw T.k__law_draw T.bd__law_draw tk (qa_cons (qv 0) (qa_cons (q_callB cq_len rfl T.z_len (by decide +kernel) (qa_cons (qv 1) qa_nil)) qa_nil))))
      (qss_cons (qs_set (i := 5) sc__law_bent.nd rfl (by first | exact Or.inl rfl | exact Or.inr rfl) (q_ix (q_lst (qa_cons q_int (qa_cons q_int (qa_cons q_int (qa_cons q_int (qa_cons q_int (qa_cons (q_neg q_int) (qa_cons q_int (qa_cons (q_op oq_pow q_int q_int) qa_nil))))))))) (q_call IH.d__law_draw hr rfl T.g__law_draw T.k__law_draw T.bd__law_draw tk (qa_cons (qv 0) (qa_cons q_int qa_nil)))))
      (qss_one (qs_set (i := 2) sc__law_bent.nd rfl (by first | exact Or.inl rfl | exact Or.inr rfl) (q_op oq_add (qv 2) (q_lst (qa_cons (q_op oq_add (q_op oq_add (q_cut (qv 1) qo_none (qo_some (qv 4))) (q_lst (qa_cons (qv 5) qa_nil))) (q_cut (qv 1) (qo_some (q_op oq_add (qv 4) q_int)) qo_none)) (qa_cons (q_op oq_add (q_cut (qv 1) qo_none (qo_some (qv 4))) (q_cut (qv 1) (qo_some (q_op oq_add (qv 4) q_int)) qo_none)) (qa_cons (q_op oq_add (q_op oq_add (q_cut (qv 1) qo_none (qo_some (qv 4))) (q_lst (qa_cons (qv 5) qa_nil))) (q_cut (qv 1) (qo_some (qv 4)) qo_none)) (qa_cons (q_cut (qv 1) qo_none (qo_some (qv 4))) qa_nil)))))))))))
      (qss_one (qs_ret (qv 2)))))
theorem ok_law (T : Txt P w K mg base A) (IH : AllD P w K mg base A k W) : FnD P w K mg base (k + 1) A.f_law A.fd_law ["script"] (bodyG 11 (b_law A.cl W)) := by
  refine FnD.less (F := bodyF 11 (b_law A.cl W)) ?_
  refine T.F_law.okD (N := N_law) (b := b_law A.cl W) sc_law fun cdv Ar outer s H E hr => ?_
  have tk : L2N.Takes (cxOf (L2N.CX P w) P w K mg base N_law "law" (defScope s_law) A.f_law cdv Ar outer s H E) (fun cls d _ H' => E cls d H') := L2N.takes_of rfl rfl rfl rfl
  have hu : Un0 (Ar.deeper (envOfC "law" (defScope s_law) s.heap.objs.size A.f_law cdv)) := hr.un0
  exact (qss_cons (qs_set (i := 1) sc_law.nd rfl (by first | exact Or.inl rfl | exact Or.inr rfl) (q_call IH.d__law_feed hr rfl T.g__law_feed T.k__law_feed T.bd__law_feed tk (qa_cons (qv 0) qa_nil)))
      (qss_cons (qs_for (passes_of rfl) rfl (qi_rng1 rfl T.z_range (qa_cons q_int qa_nil)) (qg_name (i := 2) sc_law.nd rfl (by first | exact Or.inl rfl | exact Or.inr rfl)) (qss_cons (qs_set (i := 5) sc_law.nd rfl (by first | exact Or.inl rfl | exact Or.inr rfl) (q_call IH.d__law_some_code hr rfl T.g__law_some_code T.k__law_some_code T.bd__law_some_code tk (qa_cons (qv 1) (qa_cons q_int qa_nil))))
      (qss_cons (qs_set (i := 6) sc_law.nd rfl (by first | exact Or.inl rfl | exact Or.inr rfl) (q_call IH.d__law_whole hr rfl T.g__law_whole T.k__law_whole T.bd__law_whole tk (qa_cons (qv 5) qa_nil)))
      (qss_cons (qs_set (i := 7) sc_law.nd rfl (by first | exact Or.inl rfl | exact Or.inr rfl) (q_call IH.d_bytes_of_code hr rfl T.g_bytes_of_code T.k_bytes_of_code T.bd_bytes_of_code tk (qa_cons (qv 5) qa_nil)))
      (qss_cons (qs_if (qt_bool (qw_or (qt_not (qt (q_isi ans_list rfl T.z_isinstance rfl T.z_list (by decide +kernel) (qv 7)))) (qw_or (qt_cmp (oq_neM hu) (qv 7) (qv 6)) (qw_or (qt_cmp oq_gt (q_callB cq_len rfl T.z_len (by decide +kernel) (qa_cons (q_comp rfl sc_law.nd (qi_list (qv 7)) (blkOk_by (own := [("x", 10)]) (N := N_law) (sc := defScope s_law) (by decide +kernel)) (fun _ _ _ _ _ => pg_name (i := 10) sc_law.nd rfl (Or.inl rfl)) (fun _ _ _ _ _ => (qts_one (qt_not (qt (q_call IH.d__law_is_whole hr rfl T.g__law_is_whole T.k__law_is_whole T.bd__law_is_whole takesF (qa_cons (qv 10) qa_nil)))))) (fun _ _ _ _ _ => (qv 10))) qa_nil)) q_int) (qw_or1 (qt_cmp (oq_ne hu) (q_call IH.d__law_told hr rfl T.g__law_told T.k__law_told T.bd__law_told tk (qa_cons (qv 7) qa_nil)) (q_tup (qa_cons q_str (qa_cons (qv 5) qa_nil))))))))) (qss_one (qs_ret q_bl)) qss_nil)
      (qss_cons (qs_if (qt_bool (qw_or (qt_cmp (oq_ne hu) (q_callB (cq_repr hu) rfl T.z_repr (by decide +kernel) (qa_cons (q_call IH.d__law_told hr rfl T.g__law_told T.k__law_told T.bd__law_told tk (qa_cons (qv 7) qa_nil)) qa_nil)) (q_callB (cq_repr hu) rfl T.z_repr (by decide +kernel) (qa_cons (q_tup (qa_cons q_str (qa_cons (qv 5) qa_nil))) qa_nil))) (qw_or1 (qt_cmp (oq_ne hu) (q_call IH.d_code_of_bytes hr rfl T.g_code_of_bytes T.k_code_of_bytes T.bd_code_of_bytes tk (qa_cons (q_frz (q_call IH.d_bytes_of_code hr rfl T.g_bytes_of_code T.k_bytes_of_code T.bd_bytes_of_code tk (qa_cons (q_call IH.d_code_of_text hr rfl T.g_code_of_text T.k_code_of_text T.bd_code_of_text tk (qa_cons (q_call IH.d_text_of_code hr rfl T.g_text_of_code T.k_text_of_code T.bd_text_of_code tk (qa_cons (qv 5) qa_nil)) qa_nil)) qa_nil))) qa_nil)) (qv 5))))) (qss_one (qs_ret q_bl)) qss_nil)
      (qss_cons (qs_expr (q_app (qv 7) q_int))
      (qss_cons (qs_if (qt_cmp (oq_ne hu) (q_frz (q_call IH.d_bytes_of_code hr rfl T.g_bytes_of_code T.k_bytes_of_code T.bd_bytes_of_code tk (qa_cons (qv 5) qa_nil))) (qv 6)) (qss_one (qs_ret q_bl)) qss_nil)
      (qss_one (qs_for (passes_of rfl) rfl (qi_list (q_call IH.d__law_bent hr rfl T.g__law_bent T.k__law_bent T.bd__law_bent tk (qa_cons (qv 1) (qa_cons (qv 6) qa_nil)))) (qg_name (i := 8) sc_law.nd rfl (by first | exact Or.inl rfl | exact Or.inr rfl)) (qss_one (qs_for (passes_of rfl) rfl (qi_list (q_lst (qa_cons (qv 8) (qa_cons (q_op oq_add (q_cut (qv 8) qo_none (qo_some (q_neg q_int))) (q_lst (qa_cons (q_op oq_mod (q_callTy cq_int rfl T.z_int (by decide +kernel) (qa_cons (q_callB (cq_sum rfl) rfl T.z_sum (by decide +kernel) (qa_cons (q_cut (qv 8) qo_none (qo_some (q_neg q_int))) qa_nil)) qa_nil)) q_int) qa_nil))) qa_nil)))) (qg_name (i := 9) sc_law.nd rfl (by first | exact Or.inl rfl | exact Or.inr rfl)) (qss_one (qs_if (qt_cmp (oq_ne hu) (q_call IH.d__law_told hr rfl T.g__law_told T.k__law_told T.bd__law_told tk (qa_cons (qv 9) qa_nil)) (q_call IH.d__law_due hr rfl T.g__law_due T.k__law_due T.bd__law_due tk (qa_cons (qv 9) qa_nil))) (qss_one (qs_ret q_bl)) qss_nil))))))))))))))
      (qss_cons (qs_set (i := 3) sc_law.nd rfl (by first | exact Or.inl rfl | exact Or.inr rfl) (q_op oq_add q_int (q_call IH.d__law_draw hr rfl T.g__law_draw T.k__law_draw T.bd__law_draw tk (qa_cons (qv 1) (qa_cons q_int qa_nil)))))
      (qss_cons (qs_set (i := 4) sc_law.nd rfl (by first | exact Or.inl rfl | exact Or.inr rfl) (q_call IH.d__law_whole hr rfl T.g__law_whole T.k__law_whole T.bd__law_whole tk (qa_cons (q_call IH.d__law_long hr rfl T.g__law_long T.k__law_long T.bd__law_long tk (qa_cons (qv 1) (qa_cons (qv 3) qa_nil))) qa_nil)))
      (qss_cons (qs_if (qt_bool (qw_or (qt_cmp (oq_ne hu) (q_call IH.d__law_told hr rfl T.g__law_told T.k__law_told T.bd__law_told tk (qa_cons (qv 4) qa_nil)) (q_call IH.d__law_due hr rfl T.g__law_due T.k__law_due T.bd__law_due tk (qa_cons (qv 4) qa_nil))) (qw_or1 (qt_cmp (oq_ne hu) (q_cmp (oq_eq hu) (q_ix (q_call IH.d__law_told hr rfl T.g__law_told T.k__law_told T.bd__law_told tk (qa_cons (qv 4) qa_nil)) q_int) q_str) (q_cmp oq_gt (qv 3) q_int))))) (qss_one (qs_ret q_bl)) qss_nil)
      (qss_cons (qs_if (qt_bool (qw_or (qt_cmp (oq_ne hu) (q_frz (q_call IH.d_bytes_of_code hr rfl T.g_bytes_of_code T.k_bytes_of_code T.bd_bytes_of_code tk (qa_cons (q_tup (qa_cons (q_tup (qa_cons q_str (qa_cons q_str qa_nil))) (qa_cons q_str qa_nil))) qa_nil))) (q_lst (qa_cons q_int (qa_cons q_int (qa_cons q_int (qa_cons q_int (qa_cons q_int (qa_cons q_int (qa_cons q_int qa_nil))))))))) (qw_or (qt_cmp (oq_ne hu) (q_call IH.d__law_told hr rfl T.g__law_told T.k__law_told T.bd__law_told tk (qa_cons (q_lst (qa_cons q_int (qa_cons q_int (qa_cons q_int qa_nil)))) qa_nil)) (q_tup (qa_cons q_str (qa_cons q_str qa_nil)))) (qw_or1 (qt_cmp (oq_ne hu) (q_call IH.d__law_told hr rfl T.g__law_told T.k__law_told T.bd__law_told tk (qa_cons (q_lst (qa_cons q_int (qa_cons q_int (qa_cons q_int qa_nil)))) qa_nil)) (q_tup (qa_cons q_str (qa_cons q_int qa_nil)))))))) (qss_one (qs_ret q_bl)) qss_nil)
      (qss_one (qs_ret (q_and (q_cmp (oq_eq hu) (q_call IH.d__law_told hr rfl T.g__law_told T.k__law_told T.bd__law_told tk (qa_cons (q_lst (qa_cons q_int (qa_cons q_int (qa_cons q_int qa_nil)))) qa_nil)) (q_tup (qa_cons q_str (qa_cons q_int qa_nil)))) (q_and (q_cmp (oq_eq hu) (q_call IH.d__law_told hr rfl T.g__law_told T.k__law_told T.bd__law_told tk (qa_cons (q_lst (qa_cons q_int (qa_cons q_int (qa_cons q_int qa_nil)))) qa_nil)) (q_tup (qa_cons q_str (qa_cons q_int qa_nil)))) (q_and (q_cmp (oq_eq hu) (q_call IH.d__law_told hr rfl T.g__law_told T.k__law_told T.bd__law_told tk (qa_cons (q_lst (qa_cons q_int (qa_cons q_int qa_nil))) qa_nil)) (q_tup (qa_cons q_str (qa_cons q_int qa_nil)))) (q_one (q_cmp (oq_eq hu) (q_call IH.d__law_told hr rfl T.g__law_told T.k__law_told T.bd__law_told tk (qa_cons (q_lst (qa_cons q_int (qa_cons q_int (qa_cons q_int (qa_cons q_int qa_nil))))) qa_nil)) (q_tup (qa_cons q_str (qa_cons q_int qa_nil))))))))))))))))
theorem all_ok (T : Txt P w K mg base A) : ∀ k, AllD P w K mg base A k (WW A.cl k)
  | 0 => ⟨FnD.never, FnD.never, FnD.never, FnD.never, FnD.never, FnD.never, FnD.never, FnD.never, FnD.never, FnD.never, FnD.never, FnD.never, FnD.never, FnD.never, FnD.never, FnD.never, FnD.never, FnD.never, FnD.never, FnD.never, FnD.never, FnD.never, FnD.never, FnD.never, FnD.never⟩
  | k + 1 => ⟨ok_is_use T (all_ok T k), ok_count_joiners T (all_ok T k), ok_text_of_code T (all_ok T k), ok_taken T (all_ok T k), ok_code_from T (all_ok T k), ok_code_of_text T (all_ok T k), ok_checked T (all_ok T k), ok_code_numbers T (all_ok T k), ok_bytes_of_code T (all_ok T k), ok_Reader_number T (all_ok T k), ok_Reader_check T (all_ok T k), ok_Reader_part T (all_ok T k), ok_Reader_code T (all_ok T k), ok_code_of_bytes T (all_ok T k), ok__law_feed T (all_ok T k), ok__law_draw T (all_ok T k), ok__law_is_whole T (all_ok T k), ok__law_some_code T (all_ok T k), ok__law_code_numbers T (all_ok T k), ok__law_told T (all_ok T k), ok__law_due T (all_ok T k), ok__law_whole T (all_ok T k), ok__law_long T (all_ok T k), ok__law_bent T (all_ok T k), ok_law T (all_ok T k)⟩
end
end Once

namespace Once
open PySem PySem.Spec PyProof.Rows L2
/-! ## The end -/
theorem hot__law_is_whole {cl : Cs} {P : Program} {w : World} {K : PySem.W.Frag} {mg : Str → Option Value} {base : Heap} {f : Addr} {fd : FuncData} (F : Fun K "_law_is_whole" "_law_is_whole" s__law_is_whole f fd) (z_abs : mg "abs" = none) (z_bool : mg "bool" = none) (z_int : mg "int" = none) (z_isinstance : mg "isinstance" = none) (z_len : mg "len" = none) (z_list : mg "list" = none) (z_range : mg "range" = none) (z_repr : mg "repr" = none) (z_str : mg "str" = none) (z_sum : mg "sum" = none) (z_tuple : mg "tuple" = none) : FnHD P w K mg base 1 f fd ["x"] (bodyF 1 (b__law_is_whole cl fun _ => noF)) := by
  refine fn_ofHD (N := N__law_is_whole) (b := b__law_is_whole cl fun _ => noF) F sc__law_is_whole (fun cdv Ar outer s H E p hot => ?_) (fun ds μ x k h => ?_)
  · exact (qss_one (qs_ret (q_and (q_isi ans_int rfl z_isinstance rfl z_int (by decide +kernel) (qv 0)) (q_one (q_not (q_isi ans_bool rfl z_isinstance rfl z_bool (by decide +kernel) (qv 0)))))))
  · exact h
theorem all_mk {l : PySem.W.OpenLaw} {w : World} {K : PySem.W.Frag} {h : Heap} {mg : Str → Option Value} {fa : Addr} (X : K.In h) (G : h.Ns mainGlobals mg) (hfa : mg "law" = some (.ref fa))
    {f_is_use : Addr} {od_is_use an_is_use : Option Addr} {sl_is_use : Array (Option Value)} {oc_is_use kV_is_use dc_is_use pm_is_use cd_is_use ct_is_use : Value}
    {f_count_joiners : Addr} {od_count_joiners an_count_joiners : Option Addr} {sl_count_joiners : Array (Option Value)} {oc_count_joiners kV_count_joiners dc_count_joiners pm_count_joiners cd_count_joiners ct_count_joiners : Value}
    {f_text_of_code : Addr} {od_text_of_code an_text_of_code : Option Addr} {sl_text_of_code : Array (Option Value)} {oc_text_of_code kV_text_of_code dc_text_of_code pm_text_of_code cd_text_of_code ct_text_of_code : Value}
    {f_taken : Addr} {od_taken an_taken : Option Addr} {sl_taken : Array (Option Value)} {oc_taken kV_taken dc_taken pm_taken cd_taken ct_taken : Value}
    {f_code_from : Addr} {od_code_from an_code_from : Option Addr} {sl_code_from : Array (Option Value)} {oc_code_from kV_code_from dc_code_from pm_code_from cd_code_from ct_code_from : Value}
    {f_code_of_text : Addr} {od_code_of_text an_code_of_text : Option Addr} {sl_code_of_text : Array (Option Value)} {oc_code_of_text kV_code_of_text dc_code_of_text pm_code_of_text cd_code_of_text ct_code_of_text : Value}
    {f_checked : Addr} {od_checked an_checked : Option Addr} {sl_checked : Array (Option Value)} {oc_checked kV_checked dc_checked pm_checked cd_checked ct_checked : Value}
    {f_code_numbers : Addr} {od_code_numbers an_code_numbers : Option Addr} {sl_code_numbers : Array (Option Value)} {oc_code_numbers kV_code_numbers dc_code_numbers pm_code_numbers cd_code_numbers ct_code_numbers : Value}
    {f_bytes_of_code : Addr} {od_bytes_of_code an_bytes_of_code : Option Addr} {sl_bytes_of_code : Array (Option Value)} {oc_bytes_of_code kV_bytes_of_code dc_bytes_of_code pm_bytes_of_code cd_bytes_of_code ct_bytes_of_code : Value}
    {f_Reader_number : Addr} {od_Reader_number an_Reader_number : Option Addr} {sl_Reader_number : Array (Option Value)} {oc_Reader_number kV_Reader_number dc_Reader_number pm_Reader_number cd_Reader_number ct_Reader_number : Value}
    {f_Reader_check : Addr} {od_Reader_check an_Reader_check : Option Addr} {sl_Reader_check : Array (Option Value)} {oc_Reader_check kV_Reader_check dc_Reader_check pm_Reader_check cd_Reader_check ct_Reader_check : Value}
    {f_Reader_part : Addr} {od_Reader_part an_Reader_part : Option Addr} {sl_Reader_part : Array (Option Value)} {oc_Reader_part kV_Reader_part dc_Reader_part pm_Reader_part cd_Reader_part ct_Reader_part : Value}
    {f_Reader_code : Addr} {od_Reader_code an_Reader_code : Option Addr} {sl_Reader_code : Array (Option Value)} {oc_Reader_code kV_Reader_code dc_Reader_code pm_Reader_code cd_Reader_code ct_Reader_code : Value}
    {f_code_of_bytes : Addr} {od_code_of_bytes an_code_of_bytes : Option Addr} {sl_code_of_bytes : Array (Option Value)} {oc_code_of_bytes kV_code_of_bytes dc_code_of_bytes pm_code_of_bytes cd_code_of_bytes ct_code_of_bytes : Value}
    {f__law_feed : Addr} {od__law_feed an__law_feed : Option Addr} {sl__law_feed : Array (Option Value)} {oc__law_feed kV__law_feed dc__law_feed pm__law_feed cd__law_feed ct__law_feed : Value}
    {f__law_draw : Addr} {od__law_draw an__law_draw : Option Addr} {sl__law_draw : Array (Option Value)} {oc__law_draw kV__law_draw dc__law_draw pm__law_draw cd__law_draw ct__law_draw : Value}
    {f__law_is_whole : Addr} {od__law_is_whole an__law_is_whole : Option Addr} {sl__law_is_whole : Array (Option Value)} {oc__law_is_whole kV__law_is_whole dc__law_is_whole pm__law_is_whole cd__law_is_whole ct__law_is_whole : Value}
    {f__law_some_code : Addr} {od__law_some_code an__law_some_code : Option Addr} {sl__law_some_code : Array (Option Value)} {oc__law_some_code kV__law_some_code dc__law_some_code pm__law_some_code cd__law_some_code ct__law_some_code : Value}
    {f__law_code_numbers : Addr} {od__law_code_numbers an__law_code_numbers : Option Addr} {sl__law_code_numbers : Array (Option Value)} {oc__law_code_numbers kV__law_code_numbers dc__law_code_numbers pm__law_code_numbers cd__law_code_numbers ct__law_code_numbers : Value}
    {f__law_told : Addr} {od__law_told an__law_told : Option Addr} {sl__law_told : Array (Option Value)} {oc__law_told kV__law_told dc__law_told pm__law_told cd__law_told ct__law_told : Value}
    {f__law_due : Addr} {od__law_due an__law_due : Option Addr} {sl__law_due : Array (Option Value)} {oc__law_due kV__law_due dc__law_due pm__law_due cd__law_due ct__law_due : Value}
    {f__law_whole : Addr} {od__law_whole an__law_whole : Option Addr} {sl__law_whole : Array (Option Value)} {oc__law_whole kV__law_whole dc__law_whole pm__law_whole cd__law_whole ct__law_whole : Value}
    {f__law_long : Addr} {od__law_long an__law_long : Option Addr} {sl__law_long : Array (Option Value)} {oc__law_long kV__law_long dc__law_long pm__law_long cd__law_long ct__law_long : Value}
    {f__law_bent : Addr} {od__law_bent an__law_bent : Option Addr} {sl__law_bent : Array (Option Value)} {oc__law_bent kV__law_bent dc__law_bent pm__law_bent cd__law_bent ct__law_bent : Value}
    {f_law : Addr} {od_law an_law : Option Addr} {sl_law : Array (Option Value)} {oc_law kV_law dc_law pm_law cd_law ct_law : Value}
    {f_Reader_init : Addr} {od_Reader_init an_Reader_init : Option Addr} {sl_Reader_init : Array (Option Value)} {oc_Reader_init kV_Reader_init dc_Reader_init pm_Reader_init cd_Reader_init ct_Reader_init : Value}
    {f_BadText_init : Addr} {od_BadText_init an_BadText_init : Option Addr} {sl_BadText_init : Array (Option Value)} {oc_BadText_init kV_BadText_init dc_BadText_init pm_BadText_init cd_BadText_init ct_BadText_init : Value}
    {f_BadBytes_init : Addr} {od_BadBytes_init an_BadBytes_init : Option Addr} {sl_BadBytes_init : Array (Option Value)} {oc_BadBytes_init kV_BadBytes_init dc_BadBytes_init pm_BadBytes_init cd_BadBytes_init ct_BadBytes_init : Value}
    {c_OnceError : Addr}
    {c_BadText : Addr}
    {c_BadBytes : Addr}
    {c_Reader : Addr}
    {t_JOINERS : Addr} {n_JOINERS : Nat} {sl_JOINERS : Array (Option Value)} {k0_JOINERS k1_JOINERS k2_JOINERS : Tok}
    {nm_BadText q_BadText : Str} {N_BadText : Addr} {bs_BadText : List Value} {sn_BadText : List Str} {sb_BadText : List Value} {ab_BadText : Bool} {col_BadText : Option Bool} {dd_BadText : Option Addr} {m0_BadText m1_BadText m2_BadText m3_BadText m5_BadText : Option Value}
    {nm_BadBytes q_BadBytes : Str} {N_BadBytes : Addr} {bs_BadBytes : List Value} {sn_BadBytes : List Str} {sb_BadBytes : List Value} {ab_BadBytes : Bool} {col_BadBytes : Option Bool} {dd_BadBytes : Option Addr} {m0_BadBytes m1_BadBytes m2_BadBytes m3_BadBytes m5_BadBytes : Option Value}
    {t_CODE_MARK : Tok}
    {t_MODULUS : Tok}
    {t_MOST_JOINERS : Tok}
    (g_OnceError : PySem.W.nsIn K mainGlobals "OnceError" = some (some (.ref c_OnceError)))
    (g_BadText : PySem.W.nsIn K mainGlobals "BadText" = some (some (.ref c_BadText)))
    (g_BadBytes : PySem.W.nsIn K mainGlobals "BadBytes" = some (some (.ref c_BadBytes)))
    (g_Reader : PySem.W.nsIn K mainGlobals "Reader" = some (some (.ref c_Reader)))
    (a_is_use : PySem.W.nsIn K mainGlobals "is_use" = some (some (.ref f_is_use)))
    (l_is_use : K.lookup f_is_use = some ⟨oc_is_use, od_is_use, .func (PySem.W.fnOf "is_use" "is_use" (defArgs s_is_use) (defBody s_is_use) (defScope s_is_use) .none kV_is_use dc_is_use pm_is_use an_is_use cd_is_use ct_is_use), sl_is_use⟩)
    (e_is_use : PySem.W.codeIn K cd_is_use "is_use" = true)
    (k_is_use : PySem.W.keepIn K (.ref f_is_use) = true)
    (a_count_joiners : PySem.W.nsIn K mainGlobals "count_joiners" = some (some (.ref f_count_joiners)))
    (l_count_joiners : K.lookup f_count_joiners = some ⟨oc_count_joiners, od_count_joiners, .func (PySem.W.fnOf "count_joiners" "count_joiners" (defArgs s_count_joiners) (defBody s_count_joiners) (defScope s_count_joiners) .none kV_count_joiners dc_count_joiners pm_count_joiners an_count_joiners cd_count_joiners ct_count_joiners), sl_count_joiners⟩)
    (e_count_joiners : PySem.W.codeIn K cd_count_joiners "count_joiners" = true)
    (k_count_joiners : PySem.W.keepIn K (.ref f_count_joiners) = true)
    (a_text_of_code : PySem.W.nsIn K mainGlobals "text_of_code" = some (some (.ref f_text_of_code)))
    (l_text_of_code : K.lookup f_text_of_code = some ⟨oc_text_of_code, od_text_of_code, .func (PySem.W.fnOf "text_of_code" "text_of_code" (defArgs s_text_of_code) (defBody s_text_of_code) (defScope s_text_of_code) .none kV_text_of_code dc_text_of_code pm_text_of_code an_text_of_code cd_text_of_code ct_text_of_code), sl_text_of_code⟩)
    (e_text_of_code : PySem.W.codeIn K cd_text_of_code "text_of_code" = true)
    (k_text_of_code : PySem.W.keepIn K (.ref f_text_of_code) = true)
    (a_taken : PySem.W.nsIn K mainGlobals "taken" = some (some (.ref f_taken)))
    (l_taken : K.lookup f_taken = some ⟨oc_taken, od_taken, .func (PySem.W.fnOf "taken" "taken" (defArgs s_taken) (defBody s_taken) (defScope s_taken) .none kV_taken dc_taken pm_taken an_taken cd_taken ct_taken), sl_taken⟩)
    (e_taken : PySem.W.codeIn K cd_taken "taken" = true)
    (k_taken : PySem.W.keepIn K (.ref f_taken) = true)
    (a_code_from : PySem.W.nsIn K mainGlobals "code_from" = some (some (.ref f_code_from)))
    (l_code_from : K.lookup f_code_from = some ⟨oc_code_from, od_code_from, .func (PySem.W.fnOf "code_from" "code_from" (defArgs s_code_from) (defBody s_code_from) (defScope s_code_from) .none kV_code_from dc_code_from pm_code_from an_code_from cd_code_from ct_code_from), sl_code_from⟩)
    (e_code_from : PySem.W.codeIn K cd_code_from "code_from" = true)
    (k_code_from : PySem.W.keepIn K (.ref f_code_from) = true)
    (a_code_of_text : PySem.W.nsIn K mainGlobals "code_of_text" = some (some (.ref f_code_of_text)))
    (l_code_of_text : K.lookup f_code_of_text = some ⟨oc_code_of_text, od_code_of_text, .func (PySem.W.fnOf "code_of_text" "code_of_text" (defArgs s_code_of_text) (defBody s_code_of_text) (defScope s_code_of_text) .none kV_code_of_text dc_code_of_text pm_code_of_text an_code_of_text cd_code_of_text ct_code_of_text), sl_code_of_text⟩)
    (e_code_of_text : PySem.W.codeIn K cd_code_of_text "code_of_text" = true)
    (k_code_of_text : PySem.W.keepIn K (.ref f_code_of_text) = true)
    (a_checked : PySem.W.nsIn K mainGlobals "checked" = some (some (.ref f_checked)))
    (l_checked : K.lookup f_checked = some ⟨oc_checked, od_checked, .func (PySem.W.fnOf "checked" "checked" (defArgs s_checked) (defBody s_checked) (defScope s_checked) .none kV_checked dc_checked pm_checked an_checked cd_checked ct_checked), sl_checked⟩)
    (e_checked : PySem.W.codeIn K cd_checked "checked" = true)
    (k_checked : PySem.W.keepIn K (.ref f_checked) = true)
    (a_code_numbers : PySem.W.nsIn K mainGlobals "code_numbers" = some (some (.ref f_code_numbers)))
    (l_code_numbers : K.lookup f_code_numbers = some ⟨oc_code_numbers, od_code_numbers, .func (PySem.W.fnOf "code_numbers" "code_numbers" (defArgs s_code_numbers) (defBody s_code_numbers) (defScope s_code_numbers) .none kV_code_numbers dc_code_numbers pm_code_numbers an_code_numbers cd_code_numbers ct_code_numbers), sl_code_numbers⟩)
    (e_code_numbers : PySem.W.codeIn K cd_code_numbers "code_numbers" = true)
    (k_code_numbers : PySem.W.keepIn K (.ref f_code_numbers) = true)
    (a_bytes_of_code : PySem.W.nsIn K mainGlobals "bytes_of_code" = some (some (.ref f_bytes_of_code)))
    (l_bytes_of_code : K.lookup f_bytes_of_code = some ⟨oc_bytes_of_code, od_bytes_of_code, .func (PySem.W.fnOf "bytes_of_code" "bytes_of_code" (defArgs s_bytes_of_code) (defBody s_bytes_of_code) (defScope s_bytes_of_code) .none kV_bytes_of_code dc_bytes_of_code pm_bytes_of_code an_bytes_of_code cd_bytes_of_code ct_bytes_of_code), sl_bytes_of_code⟩)
    (e_bytes_of_code : PySem.W.codeIn K cd_bytes_of_code "bytes_of_code" = true)
    (k_bytes_of_code : PySem.W.keepIn K (.ref f_bytes_of_code) = true)
    (a_Reader_number : PySem.W.findIn K (.ref c_Reader) "number" = some (some (.ref f_Reader_number)))
    (l_Reader_number : K.lookup f_Reader_number = some ⟨oc_Reader_number, od_Reader_number, .func (PySem.W.fnOf "number" "Reader.number" (defArgs s_Reader_number) (defBody s_Reader_number) (defScope s_Reader_number) .none kV_Reader_number dc_Reader_number pm_Reader_number an_Reader_number cd_Reader_number ct_Reader_number), sl_Reader_number⟩)
    (e_Reader_number : PySem.W.codeIn K cd_Reader_number "Reader.number" = true)
    (k_Reader_number : PySem.W.keepIn K (.ref f_Reader_number) = true)
    (a_Reader_check : PySem.W.findIn K (.ref c_Reader) "check" = some (some (.ref f_Reader_check)))
    (l_Reader_check : K.lookup f_Reader_check = some ⟨oc_Reader_check, od_Reader_check, .func (PySem.W.fnOf "check" "Reader.check" (defArgs s_Reader_check) (defBody s_Reader_check) (defScope s_Reader_check) .none kV_Reader_check dc_Reader_check pm_Reader_check an_Reader_check cd_Reader_check ct_Reader_check), sl_Reader_check⟩)
    (e_Reader_check : PySem.W.codeIn K cd_Reader_check "Reader.check" = true)
    (k_Reader_check : PySem.W.keepIn K (.ref f_Reader_check) = true)
    (a_Reader_part : PySem.W.findIn K (.ref c_Reader) "part" = some (some (.ref f_Reader_part)))
    (l_Reader_part : K.lookup f_Reader_part = some ⟨oc_Reader_part, od_Reader_part, .func (PySem.W.fnOf "part" "Reader.part" (defArgs s_Reader_part) (defBody s_Reader_part) (defScope s_Reader_part) .none kV_Reader_part dc_Reader_part pm_Reader_part an_Reader_part cd_Reader_part ct_Reader_part), sl_Reader_part⟩)
    (e_Reader_part : PySem.W.codeIn K cd_Reader_part "Reader.part" = true)
    (k_Reader_part : PySem.W.keepIn K (.ref f_Reader_part) = true)
    (a_Reader_code : PySem.W.findIn K (.ref c_Reader) "code" = some (some (.ref f_Reader_code)))
    (l_Reader_code : K.lookup f_Reader_code = some ⟨oc_Reader_code, od_Reader_code, .func (PySem.W.fnOf "code" "Reader.code" (defArgs s_Reader_code) (defBody s_Reader_code) (defScope s_Reader_code) .none kV_Reader_code dc_Reader_code pm_Reader_code an_Reader_code cd_Reader_code ct_Reader_code), sl_Reader_code⟩)
    (e_Reader_code : PySem.W.codeIn K cd_Reader_code "Reader.code" = true)
    (k_Reader_code : PySem.W.keepIn K (.ref f_Reader_code) = true)
    (a_code_of_bytes : PySem.W.nsIn K mainGlobals "code_of_bytes" = some (some (.ref f_code_of_bytes)))
    (l_code_of_bytes : K.lookup f_code_of_bytes = some ⟨oc_code_of_bytes, od_code_of_bytes, .func (PySem.W.fnOf "code_of_bytes" "code_of_bytes" (defArgs s_code_of_bytes) (defBody s_code_of_bytes) (defScope s_code_of_bytes) .none kV_code_of_bytes dc_code_of_bytes pm_code_of_bytes an_code_of_bytes cd_code_of_bytes ct_code_of_bytes), sl_code_of_bytes⟩)
    (e_code_of_bytes : PySem.W.codeIn K cd_code_of_bytes "code_of_bytes" = true)
    (k_code_of_bytes : PySem.W.keepIn K (.ref f_code_of_bytes) = true)
    (a__law_feed : PySem.W.nsIn K mainGlobals "_law_feed" = some (some (.ref f__law_feed)))
    (l__law_feed : K.lookup f__law_feed = some ⟨oc__law_feed, od__law_feed, .func (PySem.W.fnOf "_law_feed" "_law_feed" (defArgs s__law_feed) (defBody s__law_feed) (defScope s__law_feed) .none kV__law_feed dc__law_feed pm__law_feed an__law_feed cd__law_feed ct__law_feed), sl__law_feed⟩)
    (e__law_feed : PySem.W.codeIn K cd__law_feed "_law_feed" = true)
    (k__law_feed : PySem.W.keepIn K (.ref f__law_feed) = true)
    (a__law_draw : PySem.W.nsIn K mainGlobals "_law_draw" = some (some (.ref f__law_draw)))
    (l__law_draw : K.lookup f__law_draw = some ⟨oc__law_draw, od__law_draw, .func (PySem.W.fnOf "_law_draw" "_law_draw" (defArgs s__law_draw) (defBody s__law_draw) (defScope s__law_draw) .none kV__law_draw dc__law_draw pm__law_draw an__law_draw cd__law_draw ct__law_draw), sl__law_draw⟩)
    (e__law_draw : PySem.W.codeIn K cd__law_draw "_law_draw" = true)
    (k__law_draw : PySem.W.keepIn K (.ref f__law_draw) = true)
    (a__law_is_whole : PySem.W.nsIn K mainGlobals "_law_is_whole" = some (some (.ref f__law_is_whole)))
    (l__law_is_whole : K.lookup f__law_is_whole = some ⟨oc__law_is_whole, od__law_is_whole, .func (PySem.W.fnOf "_law_is_whole" "_law_is_whole" (defArgs s__law_is_whole) (defBody s__law_is_whole) (defScope s__law_is_whole) .none kV__law_is_whole dc__law_is_whole pm__law_is_whole an__law_is_whole cd__law_is_whole ct__law_is_whole), sl__law_is_whole⟩)
    (e__law_is_whole : PySem.W.codeIn K cd__law_is_whole "_law_is_whole" = true)
    (k__law_is_whole : PySem.W.keepIn K (.ref f__law_is_whole) = true)
    (a__law_some_code : PySem.W.nsIn K mainGlobals "_law_some_code" = some (some (.ref f__law_some_code)))
    (l__law_some_code : K.lookup f__law_some_code = some ⟨oc__law_some_code, od__law_some_code, .func (PySem.W.fnOf "_law_some_code" "_law_some_code" (defArgs s__law_some_code) (defBody s__law_some_code) (defScope s__law_some_code) .none kV__law_some_code dc__law_some_code pm__law_some_code an__law_some_code cd__law_some_code ct__law_some_code), sl__law_some_code⟩)
    (e__law_some_code : PySem.W.codeIn K cd__law_some_code "_law_some_code" = true)
    (k__law_some_code : PySem.W.keepIn K (.ref f__law_some_code) = true)
    (a__law_code_numbers : PySem.W.nsIn K mainGlobals "_law_code_numbers" = some (some (.ref f__law_code_numbers)))
    (l__law_code_numbers : K.lookup f__law_code_numbers = some ⟨oc__law_code_numbers, od__law_code_numbers, .func (PySem.W.fnOf "_law_code_numbers" "_law_code_numbers" (defArgs s__law_code_numbers) (defBody s__law_code_numbers) (defScope s__law_code_numbers) .none kV__law_code_numbers dc__law_code_numbers pm__law_code_numbers an__law_code_numbers cd__law_code_numbers ct__law_code_numbers), sl__law_code_numbers⟩)
    (e__law_code_numbers : PySem.W.codeIn K cd__law_code_numbers "_law_code_numbers" = true)
    (k__law_code_numbers : PySem.W.keepIn K (.ref f__law_code_numbers) = true)
    (a__law_told : PySem.W.nsIn K mainGlobals "_law_told" = some (some (.ref f__law_told)))
    (l__law_told : K.lookup f__law_told = some ⟨oc__law_told, od__law_told, .func (PySem.W.fnOf "_law_told" "_law_told" (defArgs s__law_told) (defBody s__law_told) (defScope s__law_told) .none kV__law_told dc__law_told pm__law_told an__law_told cd__law_told ct__law_told), sl__law_told⟩)
    (e__law_told : PySem.W.codeIn K cd__law_told "_law_told" = true)
    (k__law_told : PySem.W.keepIn K (.ref f__law_told) = true)
    (a__law_due : PySem.W.nsIn K mainGlobals "_law_due" = some (some (.ref f__law_due)))
    (l__law_due : K.lookup f__law_due = some ⟨oc__law_due, od__law_due, .func (PySem.W.fnOf "_law_due" "_law_due" (defArgs s__law_due) (defBody s__law_due) (defScope s__law_due) .none kV__law_due dc__law_due pm__law_due an__law_due cd__law_due ct__law_due), sl__law_due⟩)
    (e__law_due : PySem.W.codeIn K cd__law_due "_law_due" = true)
    (k__law_due : PySem.W.keepIn K (.ref f__law_due) = true)
    (a__law_whole : PySem.W.nsIn K mainGlobals "_law_whole" = some (some (.ref f__law_whole)))
    (l__law_whole : K.lookup f__law_whole = some ⟨oc__law_whole, od__law_whole, .func (PySem.W.fnOf "_law_whole" "_law_whole" (defArgs s__law_whole) (defBody s__law_whole) (defScope s__law_whole) .none kV__law_whole dc__law_whole pm__law_whole an__law_whole cd__law_whole ct__law_whole), sl__law_whole⟩)
    (e__law_whole : PySem.W.codeIn K cd__law_whole "_law_whole" = true)
    (k__law_whole : PySem.W.keepIn K (.ref f__law_whole) = true)
    (a__law_long : PySem.W.nsIn K mainGlobals "_law_long" = some (some (.ref f__law_long)))
    (l__law_long : K.lookup f__law_long = some ⟨oc__law_long, od__law_long, .func (PySem.W.fnOf "_law_long" "_law_long" (defArgs s__law_long) (defBody s__law_long) (defScope s__law_long) .none kV__law_long dc__law_long pm__law_long an__law_long cd__law_long ct__law_long), sl__law_long⟩)
    (e__law_long : PySem.W.codeIn K cd__law_long "_law_long" = true)
    (k__law_long : PySem.W.keepIn K (.ref f__law_long) = true)
    (a__law_bent : PySem.W.nsIn K mainGlobals "_law_bent" = some (some (.ref f__law_bent)))
    (l__law_bent : K.lookup f__law_bent = some ⟨oc__law_bent, od__law_bent, .func (PySem.W.fnOf "_law_bent" "_law_bent" (defArgs s__law_bent) (defBody s__law_bent) (defScope s__law_bent) .none kV__law_bent dc__law_bent pm__law_bent an__law_bent cd__law_bent ct__law_bent), sl__law_bent⟩)
    (e__law_bent : PySem.W.codeIn K cd__law_bent "_law_bent" = true)
    (k__law_bent : PySem.W.keepIn K (.ref f__law_bent) = true)
    (a_law : PySem.W.nsIn K mainGlobals "law" = some (some (.ref f_law)))
    (l_law : K.lookup f_law = some ⟨oc_law, od_law, .func (PySem.W.fnOf "law" "law" (defArgs s_law) (defBody s_law) (defScope s_law) .none kV_law dc_law pm_law an_law cd_law ct_law), sl_law⟩)
    (e_law : PySem.W.codeIn K cd_law "law" = true)
    (k_law : PySem.W.keepIn K (.ref f_law) = true)
    (a_Reader_init : PySem.W.findIn K (.ref c_Reader) "__init__" = some (some (.ref f_Reader_init)))
    (l_Reader_init : K.lookup f_Reader_init = some ⟨oc_Reader_init, od_Reader_init, .func (PySem.W.fnOf "__init__" "Reader.__init__" (defArgs s_Reader_init) (defBody s_Reader_init) (defScope s_Reader_init) .none kV_Reader_init dc_Reader_init pm_Reader_init an_Reader_init cd_Reader_init ct_Reader_init), sl_Reader_init⟩)
    (e_Reader_init : PySem.W.codeIn K cd_Reader_init "Reader.__init__" = true)
    (k_Reader_init : PySem.W.keepIn K (.ref f_Reader_init) = true)
    (a_BadText_init : PySem.W.findIn K (.ref c_BadText) "__init__" = some (some (.ref f_BadText_init)))
    (l_BadText_init : K.lookup f_BadText_init = some ⟨oc_BadText_init, od_BadText_init, .func (PySem.W.fnOf "__init__" "BadText.__init__" (defArgs s_BadText_init) (defBody s_BadText_init) (defScope s_BadText_init) .none kV_BadText_init dc_BadText_init pm_BadText_init an_BadText_init cd_BadText_init ct_BadText_init), sl_BadText_init⟩)
    (e_BadText_init : PySem.W.codeIn K cd_BadText_init "BadText.__init__" = true)
    (k_BadText_init : PySem.W.keepIn K (.ref f_BadText_init) = true)
    (a_BadBytes_init : PySem.W.findIn K (.ref c_BadBytes) "__init__" = some (some (.ref f_BadBytes_init)))
    (l_BadBytes_init : K.lookup f_BadBytes_init = some ⟨oc_BadBytes_init, od_BadBytes_init, .func (PySem.W.fnOf "__init__" "BadBytes.__init__" (defArgs s_BadBytes_init) (defBody s_BadBytes_init) (defScope s_BadBytes_init) .none kV_BadBytes_init dc_BadBytes_init pm_BadBytes_init an_BadBytes_init cd_BadBytes_init ct_BadBytes_init), sl_BadBytes_init⟩)
    (e_BadBytes_init : PySem.W.codeIn K cd_BadBytes_init "BadBytes.__init__" = true)
    (k_BadBytes_init : PySem.W.keepIn K (.ref f_BadBytes_init) = true)
    (xL_BadText : K.lookup c_BadText = some (excClassObj nm_BadText q_BadText c_BadText N_BadText bs_BadText [.ref c_OnceError, .type "ValueError", .type "Exception", .type "BaseException", .type "object"] true sn_BadText sb_BadText ab_BadText col_BadText dd_BadText m0_BadText m1_BadText m2_BadText m3_BadText m5_BadText "ValueError.__new__"))
    (sa_BadText : PySem.W.findIn K (.ref c_BadText) "__setattr__" = some (some (.builtin "object.__setattr__")))
    (tf_BadText : PySem.W.typeIn K (.ref f_BadText_init) = some (.type "function"))
    (kc_BadText : PySem.W.keepIn K (.ref c_BadText) = true)
    (eC_BadText : PySem.W.subIn K (.ref c_BadText) (.type "BaseException") = some true)
    (tC_BadText : PySem.W.typeIn K (.ref c_BadText) = some (.type "type"))
    (no_BadText_at : PySem.W.findIn K (.ref c_BadText) "at" = some none)
    (xL_BadBytes : K.lookup c_BadBytes = some (excClassObj nm_BadBytes q_BadBytes c_BadBytes N_BadBytes bs_BadBytes [.ref c_OnceError, .type "ValueError", .type "Exception", .type "BaseException", .type "object"] true sn_BadBytes sb_BadBytes ab_BadBytes col_BadBytes dd_BadBytes m0_BadBytes m1_BadBytes m2_BadBytes m3_BadBytes m5_BadBytes "ValueError.__new__"))
    (sa_BadBytes : PySem.W.findIn K (.ref c_BadBytes) "__setattr__" = some (some (.builtin "object.__setattr__")))
    (tf_BadBytes : PySem.W.typeIn K (.ref f_BadBytes_init) = some (.type "function"))
    (kc_BadBytes : PySem.W.keepIn K (.ref c_BadBytes) = true)
    (eC_BadBytes : PySem.W.subIn K (.ref c_BadBytes) (.type "BaseException") = some true)
    (tC_BadBytes : PySem.W.typeIn K (.ref c_BadBytes) = some (.type "type"))
    (no_BadBytes_at : PySem.W.findIn K (.ref c_BadBytes) "at" = some none)
    (ga_BadBytes : PySem.W.findIn K (.ref c_BadBytes) "__getattribute__" = some (some (.builtin "BaseException.__getattribute__")))
    (gg_BadBytes : PySem.W.findIn K (.ref c_BadBytes) "__getattr__" = some none)
    (hC_BadBytes : PySem.W.hasDictIn K c_BadBytes = true)
    (sC_BadBytes : PySem.W.subIn K (.ref c_BadBytes) (.ref c_BadBytes) = some true)
    (cl_BadBytes : PySem.W.findIn K (.ref c_BadBytes) "__class__" = some (some (.builtin "object.__class__")))
    (mo_BadBytes : PySem.W.mroIn K c_BadBytes (.type "object") = some true)
    (mk_Reader : PySem.W.makesIn K c_Reader = true)
    (kc_Reader : PySem.W.keepIn K (.ref c_Reader) = true)
    (pg_Reader : PySem.W.plainGet K c_Reader Str.empty = true)
    (hd_Reader : PySem.W.hasDictIn K c_Reader = true)
    (po_Reader : PySem.W.plainOver K c_Reader = true)
    (sa_Reader : PySem.W.findIn K (.ref c_Reader) "__setattr__" = some (some (.builtin "object.__setattr__")))
    (na_Reader_numbers : PySem.W.findIn K (.ref c_Reader) "numbers" = some none)
    (na_Reader_at : PySem.W.findIn K (.ref c_Reader) "at" = some none)
    (na_Reader_parts : PySem.W.findIn K (.ref c_Reader) "parts" = some none)
    (if_Reader_number : PySem.W.isFn K (.ref f_Reader_number) = true)
    (if_Reader_check : PySem.W.isFn K (.ref f_Reader_check) = true)
    (if_Reader_part : PySem.W.isFn K (.ref f_Reader_part) = true)
    (if_Reader_code : PySem.W.isFn K (.ref f_Reader_code) = true)
    (if_Reader_init : PySem.W.isFn K (.ref f_Reader_init) = true)
    (gt_JOINERS : PySem.W.nsIn K mainGlobals "JOINERS" = some (some (.ref t_JOINERS)))
    (kt_JOINERS : K.lookup t_JOINERS = some ⟨.type "tuple", none, .seq #[.str "B" k0_JOINERS, .str "C" k1_JOINERS, .str "I" k2_JOINERS] n_JOINERS, sl_JOINERS⟩)
    (sp_ : PySem.W.specialIn K (.builtin "object.__class__") "__get__" = some (some (.builtin "getset_descriptor.__get__")))
    (tk_ : PySem.W.takesIn K (.builtin "object.__class__") = some true)
    (ki_BadBytes_BadText : PySem.W.kitOne K (.ref c_BadBytes) (.ref c_BadText) = some false)
    (ki_BadBytes_OnceError : PySem.W.kitOne K (.ref c_BadBytes) (.ref c_OnceError) = some true)
    (z_abs : PySem.W.nsIn K mainGlobals "abs" = some none)
    (z_bool : PySem.W.nsIn K mainGlobals "bool" = some none)
    (z_int : PySem.W.nsIn K mainGlobals "int" = some none)
    (z_isinstance : PySem.W.nsIn K mainGlobals "isinstance" = some none)
    (z_len : PySem.W.nsIn K mainGlobals "len" = some none)
    (z_list : PySem.W.nsIn K mainGlobals "list" = some none)
    (z_range : PySem.W.nsIn K mainGlobals "range" = some none)
    (z_repr : PySem.W.nsIn K mainGlobals "repr" = some none)
    (z_str : PySem.W.nsIn K mainGlobals "str" = some none)
    (z_sum : PySem.W.nsIn K mainGlobals "sum" = some none)
    (z_tuple : PySem.W.nsIn K mainGlobals "tuple" = some none)
    (v_CODE_MARK : PySem.W.nsIn K mainGlobals "CODE_MARK" = some (some (.int 79 t_CODE_MARK)))
    (v_MODULUS : PySem.W.nsIn K mainGlobals "MODULUS" = some (some (.int 251 t_MODULUS)))
    (v_MOST_JOINERS : PySem.W.nsIn K mainGlobals "MOST_JOINERS" = some (some (.int 120 t_MOST_JOINERS)))
    : ∃ fd : FuncData, (∀ (s : Shared) (u : Value), BindsTo s fd ⟨[u], []⟩ [("script", u)]) ∧ ∀ base : Heap, K.In base → base.Ns mainGlobals mg → FnD l.prog w K mg base 300 fa fd ["script"] (WW ⟨c_Reader⟩ 300 24) := by
  have e := hfa.symm.trans (PySem.W.mg_of X G a_law)
  cases e
  have F_is_use := fun_mk (st := s_is_use) l_is_use e_is_use k_is_use
  have bd_is_use := F_is_use.binds (ps := ["code"]) fun _ _ _ _ _ _ us hl => match us, hl with | [_], _ => rfl
  have F_count_joiners := fun_mk (st := s_count_joiners) l_count_joiners e_count_joiners k_count_joiners
  have bd_count_joiners := F_count_joiners.binds (ps := ["code"]) fun _ _ _ _ _ _ us hl => match us, hl with | [_], _ => rfl
  have F_text_of_code := fun_mk (st := s_text_of_code) l_text_of_code e_text_of_code k_text_of_code
  have bd_text_of_code := F_text_of_code.binds (ps := ["code"]) fun _ _ _ _ _ _ us hl => match us, hl with | [_], _ => rfl
  have F_taken := fun_mk (st := s_taken) l_taken e_taken k_taken
  have bd_taken := F_taken.binds (ps := ["text", "at", "allowed"]) fun _ _ _ _ _ _ us hl => match us, hl with | [_, _, _], _ => rfl
  have F_code_from := fun_mk (st := s_code_from) l_code_from e_code_from k_code_from
  have bd_code_from := F_code_from.binds (ps := ["text", "at"]) fun _ _ _ _ _ _ us hl => match us, hl with | [_, _], _ => rfl
  have F_code_of_text := fun_mk (st := s_code_of_text) l_code_of_text e_code_of_text k_code_of_text
  have bd_code_of_text := F_code_of_text.binds (ps := ["text"]) fun _ _ _ _ _ _ us hl => match us, hl with | [_], _ => rfl
  have F_checked := fun_mk (st := s_checked) l_checked e_checked k_checked
  have bd_checked := F_checked.binds (ps := ["numbers"]) fun _ _ _ _ _ _ us hl => match us, hl with | [_], _ => rfl
  have F_code_numbers := fun_mk (st := s_code_numbers) l_code_numbers e_code_numbers k_code_numbers
  have bd_code_numbers := F_code_numbers.binds (ps := ["code"]) fun _ _ _ _ _ _ us hl => match us, hl with | [_], _ => rfl
  have F_bytes_of_code := fun_mk (st := s_bytes_of_code) l_bytes_of_code e_bytes_of_code k_bytes_of_code
  have bd_bytes_of_code := F_bytes_of_code.binds (ps := ["code"]) fun _ _ _ _ _ _ us hl => match us, hl with | [_], _ => rfl
  have F_Reader_number := fun_mk (st := s_Reader_number) l_Reader_number e_Reader_number k_Reader_number
  have bd_Reader_number := F_Reader_number.binds (ps := ["self", "least", "most"]) fun _ _ _ _ _ _ us hl => match us, hl with | [_, _, _], _ => rfl
  have F_Reader_check := fun_mk (st := s_Reader_check) l_Reader_check e_Reader_check k_Reader_check
  have bd_Reader_check := F_Reader_check.binds (ps := ["self"]) fun _ _ _ _ _ _ us hl => match us, hl with | [_], _ => rfl
  have F_Reader_part := fun_mk (st := s_Reader_part) l_Reader_part e_Reader_part k_Reader_part
  have bd_Reader_part := F_Reader_part.binds (ps := ["self", "most"]) fun _ _ _ _ _ _ us hl => match us, hl with | [_, _], _ => rfl
  have F_Reader_code := fun_mk (st := s_Reader_code) l_Reader_code e_Reader_code k_Reader_code
  have bd_Reader_code := F_Reader_code.binds (ps := ["self"]) fun _ _ _ _ _ _ us hl => match us, hl with | [_], _ => rfl
  have F_code_of_bytes := fun_mk (st := s_code_of_bytes) l_code_of_bytes e_code_of_bytes k_code_of_bytes
  have bd_code_of_bytes := F_code_of_bytes.binds (ps := ["numbers"]) fun _ _ _ _ _ _ us hl => match us, hl with | [_], _ => rfl
  have F__law_feed := fun_mk (st := s__law_feed) l__law_feed e__law_feed k__law_feed
  have bd__law_feed := F__law_feed.binds (ps := ["script"]) fun _ _ _ _ _ _ us hl => match us, hl with | [_], _ => rfl
  have F__law_draw := fun_mk (st := s__law_draw) l__law_draw e__law_draw k__law_draw
  have bd__law_draw := F__law_draw.binds (ps := ["feed", "many"]) fun _ _ _ _ _ _ us hl => match us, hl with | [_, _], _ => rfl
  have F__law_is_whole := fun_mk (st := s__law_is_whole) l__law_is_whole e__law_is_whole k__law_is_whole
  have bd__law_is_whole := F__law_is_whole.binds (ps := ["x"]) fun _ _ _ _ _ _ us hl => match us, hl with | [_], _ => rfl
  have F__law_some_code := fun_mk (st := s__law_some_code) l__law_some_code e__law_some_code k__law_some_code
  have bd__law_some_code := F__law_some_code.binds (ps := ["feed", "most"]) fun _ _ _ _ _ _ us hl => match us, hl with | [_, _], _ => rfl
  have F__law_code_numbers := fun_mk (st := s__law_code_numbers) l__law_code_numbers e__law_code_numbers k__law_code_numbers
  have bd__law_code_numbers := F__law_code_numbers.binds (ps := ["code"]) fun _ _ _ _ _ _ us hl => match us, hl with | [_], _ => rfl
  have F__law_told := fun_mk (st := s__law_told) l__law_told e__law_told k__law_told
  have bd__law_told := F__law_told.binds (ps := ["numbers"]) fun _ _ _ _ _ _ us hl => match us, hl with | [_], _ => rfl
  have F__law_due := fun_mk (st := s__law_due) l__law_due e__law_due k__law_due
  have bd__law_due := F__law_due.binds (ps := ["numbers"]) fun _ _ _ _ _ _ us hl => match us, hl with | [_], _ => rfl
  have F__law_whole := fun_mk (st := s__law_whole) l__law_whole e__law_whole k__law_whole
  have bd__law_whole := F__law_whole.binds (ps := ["code"]) fun _ _ _ _ _ _ us hl => match us, hl with | [_], _ => rfl
  have F__law_long := fun_mk (st := s__law_long) l__law_long e__law_long k__law_long
  have bd__law_long := F__law_long.binds (ps := ["feed", "many"]) fun _ _ _ _ _ _ us hl => match us, hl with | [_, _], _ => rfl
  have F__law_bent := fun_mk (st := s__law_bent) l__law_bent e__law_bent k__law_bent
  have bd__law_bent := F__law_bent.binds (ps := ["feed", "numbers"]) fun _ _ _ _ _ _ us hl => match us, hl with | [_, _], _ => rfl
  have F_law := fun_mk (st := s_law) l_law e_law k_law
  have bd_law := F_law.binds (ps := ["script"]) fun _ _ _ _ _ _ us hl => match us, hl with | [_], _ => rfl
  have F_Reader_init := fun_mk (st := s_Reader_init) l_Reader_init e_Reader_init k_Reader_init
  have bd_Reader_init := F_Reader_init.binds (ps := ["self", "numbers"]) fun _ _ _ _ _ _ us hl => match us, hl with | [_, _], _ => rfl
  have F_BadText_init := fun_mk (st := s_BadText_init) l_BadText_init e_BadText_init k_BadText_init
  have bd_BadText_init := F_BadText_init.binds (ps := ["self", "at"]) fun _ _ _ _ _ _ us hl => match us, hl with | [_, _], _ => rfl
  have F_BadBytes_init := fun_mk (st := s_BadBytes_init) l_BadBytes_init e_BadBytes_init k_BadBytes_init
  have bd_BadBytes_init := F_BadBytes_init.binds (ps := ["self", "at"]) fun _ _ _ _ _ _ us hl => match us, hl with | [_, _], _ => rfl
  have T_BadText : OexC K c_BadText := ⟨⟨_, _, _, _, _, _, _, _, _, _, _, _, _, _, _, xL_BadText, by rfl⟩, sa_BadText, eC_BadText, tC_BadText, kc_BadText⟩
  have T_BadBytes : OexC K c_BadBytes := ⟨⟨_, _, _, _, _, _, _, _, _, _, _, _, _, _, _, xL_BadBytes, by rfl⟩, sa_BadBytes, eC_BadBytes, tC_BadBytes, kc_BadBytes⟩
  let A : Ads := { c_Reader := c_Reader, t_JOINERS := t_JOINERS, f_is_use := f_is_use, fd_is_use := (PySem.W.fnOf "is_use" "is_use" (defArgs s_is_use) (defBody s_is_use) (defScope s_is_use) .none kV_is_use dc_is_use pm_is_use an_is_use cd_is_use ct_is_use), f_count_joiners := f_count_joiners, fd_count_joiners := (PySem.W.fnOf "count_joiners" "count_joiners" (defArgs s_count_joiners) (defBody s_count_joiners) (defScope s_count_joiners) .none kV_count_joiners dc_count_joiners pm_count_joiners an_count_joiners cd_count_joiners ct_count_joiners), f_text_of_code := f_text_of_code, fd_text_of_code := (PySem.W.fnOf "text_of_code" "text_of_code" (defArgs s_text_of_code) (defBody s_text_of_code) (defScope s_text_of_code) .none kV_text_of_code dc_text_of_code pm_text_of_code an_text_of_code cd_text_of_code ct_text_of_code), f_taken := f_taken, fd_taken := (PySem.W.fnOf "taken" "taken" (defArgs s_taken) (defBody s_taken) (defScope s_taken) .none kV_taken dc_taken pm_taken an_taken cd_taken ct_taken), f_code_from := f_code_from, fd_code_from := (PySem.W.fnOf "code_from" "code_from" (defArgs s_code_from) (defBody s_code_from) (defScope s_code_from) .none kV_code_from dc_code_from pm_code_from an_code_from cd_code_from ct_code_from), f_code_of_text := f_code_of_text, fd_code_of_text := (PySem.W.fnOf "code_of_text" "code_of_text" (defArgs s_code_of_text) (defBody s_code_of_text) (defScope s_code_of_text) .none kV_code_of_text dc_code_of_text pm_code_of_text an_code_of_text cd_code_of_text ct_code_of_text), f_checked := f_checked, fd_checked := (PySem.W.fnOf "checked" "checked" (defArgs s_checked) (defBody s_checked) (defScope s_checked) .none kV_checked dc_checked pm_checked an_checked cd_checked ct_checked), f_code_numbers := f_code_numbers, fd_code_numbers := (PySem.W.fnOf "code_numbers" "code_numbers" (defArgs s_code_numbers) (defBody s_code_numbers) (defScope s_code_numbers) .none kV_code_numbers dc_code_numbers pm_code_numbers an_code_numbers cd_code_numbers ct_code_numbers), f_bytes_of_code := f_bytes_of_code, fd_bytes_of_code := (PySem.W.fnOf "bytes_of_code" "bytes_of_code" (defArgs s_bytes_of_code) (defBody s_bytes_of_code) (defScope s_bytes_of_code) .none kV_bytes_of_code dc_bytes_of_code pm_bytes_of_code an_bytes_of_code cd_bytes_of_code ct_bytes_of_code), f_Reader_number := f_Reader_number, fd_Reader_number := (PySem.W.fnOf "number" "Reader.number" (defArgs s_Reader_number) (defBody s_Reader_number) (defScope s_Reader_number) .none kV_Reader_number dc_Reader_number pm_Reader_number an_Reader_number cd_Reader_number ct_Reader_number), f_Reader_check := f_Reader_check, fd_Reader_check := (PySem.W.fnOf "check" "Reader.check" (defArgs s_Reader_check) (defBody s_Reader_check) (defScope s_Reader_check) .none kV_Reader_check dc_Reader_check pm_Reader_check an_Reader_check cd_Reader_check ct_Reader_check), f_Reader_part := f_Reader_part, fd_Reader_part := (PySem.W.fnOf "part" "Reader.part" (defArgs s_Reader_part) (defBody s_Reader_part) (defScope s_Reader_part) .none kV_Reader_part dc_Reader_part pm_Reader_part an_Reader_part cd_Reader_part ct_Reader_part), f_Reader_code := f_Reader_code, fd_Reader_code := (PySem.W.fnOf "code" "Reader.code" (defArgs s_Reader_code) (defBody s_Reader_code) (defScope s_Reader_code) .none kV_Reader_code dc_Reader_code pm_Reader_code an_Reader_code cd_Reader_code ct_Reader_code), f_code_of_bytes := f_code_of_bytes, fd_code_of_bytes := (PySem.W.fnOf "code_of_bytes" "code_of_bytes" (defArgs s_code_of_bytes) (defBody s_code_of_bytes) (defScope s_code_of_bytes) .none kV_code_of_bytes dc_code_of_bytes pm_code_of_bytes an_code_of_bytes cd_code_of_bytes ct_code_of_bytes), f__law_feed := f__law_feed, fd__law_feed := (PySem.W.fnOf "_law_feed" "_law_feed" (defArgs s__law_feed) (defBody s__law_feed) (defScope s__law_feed) .none kV__law_feed dc__law_feed pm__law_feed an__law_feed cd__law_feed ct__law_feed), f__law_draw := f__law_draw, fd__law_draw := (PySem.W.fnOf "_law_draw" "_law_draw" (defArgs s__law_draw) (defBody s__law_draw) (defScope s__law_draw) .none kV__law_draw dc__law_draw pm__law_draw an__law_draw cd__law_draw ct__law_draw), f__law_is_whole := f__law_is_whole, fd__law_is_whole := (PySem.W.fnOf "_law_is_whole" "_law_is_whole" (defArgs s__law_is_whole) (defBody s__law_is_whole) (defScope s__law_is_whole) .none kV__law_is_whole dc__law_is_whole pm__law_is_whole an__law_is_whole cd__law_is_whole ct__law_is_whole), f__law_some_code := f__law_some_code, fd__law_some_code := (PySem.W.fnOf "_law_some_code" "_law_some_code" (defArgs s__law_some_code) (defBody s__law_some_code) (defScope s__law_some_code) .none kV__law_some_code dc__law_some_code pm__law_some_code an__law_some_code cd__law_some_code ct__law_some_code), f__law_code_numbers := f__law_code_numbers, fd__law_code_numbers := (PySem.W.fnOf "_law_code_numbers" "_law_code_numbers" (defArgs s__law_code_numbers) (defBody s__law_code_numbers) (defScope s__law_code_numbers) .none kV__law_code_numbers dc__law_code_numbers pm__law_code_numbers an__law_code_numbers cd__law_code_numbers ct__law_code_numbers), f__law_told := f__law_told, fd__law_told := (PySem.W.fnOf "_law_told" "_law_told" (defArgs s__law_told) (defBody s__law_told) (defScope s__law_told) .none kV__law_told dc__law_told pm__law_told an__law_told cd__law_told ct__law_told), f__law_due := f__law_due, fd__law_due := (PySem.W.fnOf "_law_due" "_law_due" (defArgs s__law_due) (defBody s__law_due) (defScope s__law_due) .none kV__law_due dc__law_due pm__law_due an__law_due cd__law_due ct__law_due), f__law_whole := f__law_whole, fd__law_whole := (PySem.W.fnOf "_law_whole" "_law_whole" (defArgs s__law_whole) (defBody s__law_whole) (defScope s__law_whole) .none kV__law_whole dc__law_whole pm__law_whole an__law_whole cd__law_whole ct__law_whole), f__law_long := f__law_long, fd__law_long := (PySem.W.fnOf "_law_long" "_law_long" (defArgs s__law_long) (defBody s__law_long) (defScope s__law_long) .none kV__law_long dc__law_long pm__law_long an__law_long cd__law_long ct__law_long), f__law_bent := f__law_bent, fd__law_bent := (PySem.W.fnOf "_law_bent" "_law_bent" (defArgs s__law_bent) (defBody s__law_bent) (defScope s__law_bent) .none kV__law_bent dc__law_bent pm__law_bent an__law_bent cd__law_bent ct__law_bent), f_law := fa, fd_law := (PySem.W.fnOf "law" "law" (defArgs s_law) (defBody s_law) (defScope s_law) .none kV_law dc_law pm_law an_law cd_law ct_law), f_Reader_init := f_Reader_init, fd_Reader_init := (PySem.W.fnOf "__init__" "Reader.__init__" (defArgs s_Reader_init) (defBody s_Reader_init) (defScope s_Reader_init) .none kV_Reader_init dc_Reader_init pm_Reader_init an_Reader_init cd_Reader_init ct_Reader_init), c_OnceError := c_OnceError, c_BadText := c_BadText, f_BadText_init := f_BadText_init, fd_BadText_init := (PySem.W.fnOf "__init__" "BadText.__init__" (defArgs s_BadText_init) (defBody s_BadText_init) (defScope s_BadText_init) .none kV_BadText_init dc_BadText_init pm_BadText_init an_BadText_init cd_BadText_init ct_BadText_init), c_BadBytes := c_BadBytes, f_BadBytes_init := f_BadBytes_init, fd_BadBytes_init := (PySem.W.fnOf "__init__" "BadBytes.__init__" (defArgs s_BadBytes_init) (defBody s_BadBytes_init) (defScope s_BadBytes_init) .none kV_BadBytes_init dc_BadBytes_init pm_BadBytes_init an_BadBytes_init cd_BadBytes_init ct_BadBytes_init) }
  refine ⟨(PySem.W.fnOf "law" "law" (defArgs s_law) (defBody s_law) (defScope s_law) .none kV_law dc_law pm_law an_law cd_law ct_law), fun s u => .of_eq rfl, fun base hK hB => ?_⟩
  have subs_BadBytes : ∀ (cn : Str) (C : Addr) (b : Bool), mg cn = some (.ref C) → sub_BadBytes cn = some b → PySem.W.exmOne K (.ref C) (.ref c_BadBytes) = some b := fun cn C b hm hs => by
    unfold sub_BadBytes at hs
    split at hs
    · rename_i ec; subst ec; cases hs
      have z := hm.symm.trans (PySem.W.mg_of X G g_BadBytes); cases z
      exact PySem.W.exm_ref eC_BadBytes hC_BadBytes tC_BadBytes sC_BadBytes
    · cases hs
  have T : Txt l.prog w K mg base A := {
    F_is_use := F_is_use,
    bd_is_use := bd_is_use,
    k_is_use := k_is_use,
    g_is_use := PySem.W.mg_of X G a_is_use,
    F_count_joiners := F_count_joiners,
    bd_count_joiners := bd_count_joiners,
    k_count_joiners := k_count_joiners,
    g_count_joiners := PySem.W.mg_of X G a_count_joiners,
    F_text_of_code := F_text_of_code,
    bd_text_of_code := bd_text_of_code,
    k_text_of_code := k_text_of_code,
    g_text_of_code := PySem.W.mg_of X G a_text_of_code,
    F_taken := F_taken,
    bd_taken := bd_taken,
    k_taken := k_taken,
    g_taken := PySem.W.mg_of X G a_taken,
    F_code_from := F_code_from,
    bd_code_from := bd_code_from,
    k_code_from := k_code_from,
    g_code_from := PySem.W.mg_of X G a_code_from,
    F_code_of_text := F_code_of_text,
    bd_code_of_text := bd_code_of_text,
    k_code_of_text := k_code_of_text,
    g_code_of_text := PySem.W.mg_of X G a_code_of_text,
    F_checked := F_checked,
    bd_checked := bd_checked,
    k_checked := k_checked,
    g_checked := PySem.W.mg_of X G a_checked,
    F_code_numbers := F_code_numbers,
    bd_code_numbers := bd_code_numbers,
    k_code_numbers := k_code_numbers,
    g_code_numbers := PySem.W.mg_of X G a_code_numbers,
    F_bytes_of_code := F_bytes_of_code,
    bd_bytes_of_code := bd_bytes_of_code,
    k_bytes_of_code := k_bytes_of_code,
    g_bytes_of_code := PySem.W.mg_of X G a_bytes_of_code,
    F_Reader_number := F_Reader_number,
    bd_Reader_number := bd_Reader_number,
    k_Reader_number := k_Reader_number,
    me_Reader_number := ⟨a_Reader_number, if_Reader_number, k_Reader_number⟩,
    F_Reader_check := F_Reader_check,
    bd_Reader_check := bd_Reader_check,
    k_Reader_check := k_Reader_check,
    me_Reader_check := ⟨a_Reader_check, if_Reader_check, k_Reader_check⟩,
    F_Reader_part := F_Reader_part,
    bd_Reader_part := bd_Reader_part,
    k_Reader_part := k_Reader_part,
    me_Reader_part := ⟨a_Reader_part, if_Reader_part, k_Reader_part⟩,
    F_Reader_code := F_Reader_code,
    bd_Reader_code := bd_Reader_code,
    k_Reader_code := k_Reader_code,
    me_Reader_code := ⟨a_Reader_code, if_Reader_code, k_Reader_code⟩,
    F_code_of_bytes := F_code_of_bytes,
    bd_code_of_bytes := bd_code_of_bytes,
    k_code_of_bytes := k_code_of_bytes,
    g_code_of_bytes := PySem.W.mg_of X G a_code_of_bytes,
    F__law_feed := F__law_feed,
    bd__law_feed := bd__law_feed,
    k__law_feed := k__law_feed,
    g__law_feed := PySem.W.mg_of X G a__law_feed,
    F__law_draw := F__law_draw,
    bd__law_draw := bd__law_draw,
    k__law_draw := k__law_draw,
    g__law_draw := PySem.W.mg_of X G a__law_draw,
    F__law_is_whole := F__law_is_whole,
    bd__law_is_whole := bd__law_is_whole,
    k__law_is_whole := k__law_is_whole,
    g__law_is_whole := PySem.W.mg_of X G a__law_is_whole,
    F__law_some_code := F__law_some_code,
    bd__law_some_code := bd__law_some_code,
    k__law_some_code := k__law_some_code,
    g__law_some_code := PySem.W.mg_of X G a__law_some_code,
    F__law_code_numbers := F__law_code_numbers,
    bd__law_code_numbers := bd__law_code_numbers,
    k__law_code_numbers := k__law_code_numbers,
    g__law_code_numbers := PySem.W.mg_of X G a__law_code_numbers,
    F__law_told := F__law_told,
    bd__law_told := bd__law_told,
    k__law_told := k__law_told,
    g__law_told := PySem.W.mg_of X G a__law_told,
    F__law_due := F__law_due,
    bd__law_due := bd__law_due,
    k__law_due := k__law_due,
    g__law_due := PySem.W.mg_of X G a__law_due,
    F__law_whole := F__law_whole,
    bd__law_whole := bd__law_whole,
    k__law_whole := k__law_whole,
    g__law_whole := PySem.W.mg_of X G a__law_whole,
    F__law_long := F__law_long,
    bd__law_long := bd__law_long,
    k__law_long := k__law_long,
    g__law_long := PySem.W.mg_of X G a__law_long,
    F__law_bent := F__law_bent,
    bd__law_bent := bd__law_bent,
    k__law_bent := k__law_bent,
    g__law_bent := PySem.W.mg_of X G a__law_bent,
    F_law := F_law,
    bd_law := bd_law,
    k_law := k_law,
    g_law := PySem.W.mg_of X G a_law,
    F_Reader_init := F_Reader_init,
    bd_Reader_init := bd_Reader_init,
    g_Reader := PySem.W.mg_of X G g_Reader,
    mk_Reader := ⟨mk_Reader, a_Reader_init, if_Reader_init, kc_Reader⟩,
    cl_Reader := ⟨pg_Reader, hd_Reader, po_Reader, sa_Reader⟩,
    na_Reader_numbers := na_Reader_numbers,
    na_Reader_at := na_Reader_at,
    na_Reader_parts := na_Reader_parts,
    gt_JOINERS := PySem.W.mg_of X G gt_JOINERS,
    kt_JOINERS := ⟨_, _, _, kt_JOINERS, rfl, rfl, rfl, by rw [sizeLine_eq]; exact Nat.le_of_lt (by show (List.length _) < _; simp only [List.length_cons, List.length_nil]; decide), .cons ⟨_, rfl⟩ (.cons ⟨_, rfl⟩ (.cons ⟨_, rfl⟩ (.nil)))⟩,
    z_abs := PySem.W.mg_none_of X G z_abs,
    z_bool := PySem.W.mg_none_of X G z_bool,
    z_int := PySem.W.mg_none_of X G z_int,
    z_isinstance := PySem.W.mg_none_of X G z_isinstance,
    z_len := PySem.W.mg_none_of X G z_len,
    z_list := PySem.W.mg_none_of X G z_list,
    z_range := PySem.W.mg_none_of X G z_range,
    z_repr := PySem.W.mg_none_of X G z_repr,
    z_str := PySem.W.mg_none_of X G z_str,
    z_sum := PySem.W.mg_none_of X G z_sum,
    z_tuple := PySem.W.mg_none_of X G z_tuple,
    v_CODE_MARK := ⟨_, PySem.W.mg_of X G v_CODE_MARK⟩,
    v_MODULUS := ⟨_, PySem.W.mg_of X G v_MODULUS⟩,
    v_MOST_JOINERS := ⟨_, PySem.W.mg_of X G v_MOST_JOINERS⟩,
    g_OnceError := PySem.W.mg_of X G g_OnceError,
    g_BadText := PySem.W.mg_of X G g_BadText,
    g_BadBytes := PySem.W.mg_of X G g_BadBytes,
    er_BadBytes := ⟨T_BadBytes, a_BadBytes_init, tf_BadBytes, init1 F_BadBytes_init rfl ⟨rfl, rfl, rfl, by decide +kernel, rfl, by decide +kernel, by decide +kernel⟩ T_BadBytes no_BadBytes_at (by decide) (by decide) rfl rfl, bd_BadBytes_init, PySem.W.mg_of X G g_BadBytes⟩,
    er_BadText := ⟨T_BadText, a_BadText_init, tf_BadText, init1 F_BadText_init rfl ⟨rfl, rfl, rfl, by decide +kernel, rfl, by decide +kernel, by decide +kernel⟩ T_BadText no_BadText_at (by decide) (by decide) rfl rfl, bd_BadText_init, PySem.W.mg_of X G g_BadText⟩,
    sub_BadBytes := subs_BadBytes,
    xf_BadBytes := ⟨ga_BadBytes, gg_BadBytes, eC_BadBytes, hC_BadBytes⟩,
    ec_BadBytes := ⟨ga_BadBytes, gg_BadBytes, eC_BadBytes, hC_BadBytes, cl_BadBytes, sp_, tk_, mo_BadBytes⟩,
    no_BadBytes_at := no_BadBytes_at,
    ki_BadBytes_BadText := ki_BadBytes_BadText,
    ki_BadBytes_OnceError := ki_BadBytes_OnceError,
    h__law_is_whole := hot__law_is_whole F__law_is_whole (PySem.W.mg_none_of X G z_abs) (PySem.W.mg_none_of X G z_bool) (PySem.W.mg_none_of X G z_int) (PySem.W.mg_none_of X G z_isinstance) (PySem.W.mg_none_of X G z_len) (PySem.W.mg_none_of X G z_list) (PySem.W.mg_none_of X G z_range) (PySem.W.mg_none_of X G z_repr) (PySem.W.mg_none_of X G z_str) (PySem.W.mg_none_of X G z_sum) (PySem.W.mg_none_of X G z_tuple) }
  exact (all_ok T 300).d_law
end Once

open PySem PySem.W PyProof.Rows in
set_option maxRecDepth 100000 in
set_option maxHeartbeats 0 in
theorem PySem.Challenge.cw_oncelinks_k53_whole_codes_as_numbers_holds : PySem.Challenge.rw_oncelinks_k53_whole_codes_as_numbers.Holds := by
  w_on; o_law; k_head; (case hw => w_witness2)
  k_fill
  refine Once.walkDC (l := PySem.Challenge.rw_oncelinks_k53_whole_codes_as_numbers) (n := 63) (k := 300) (F := fun cl => Once.WW cl 300 24) (x := "script") rfl (by decide) (by decide) rfl (fun w h Y => PySem.W.kIn_of Y) Once.law_holds ?F
  case F =>
    intro w mg fa h KX G hmg
    refine' ⟨_, Once.all_mk KX G hmg ?g_OnceError ?g_BadText ?g_BadBytes ?g_Reader ?a_is_use ?l_is_use ?e_is_use ?k_is_use ?a_count_joiners ?l_count_joiners ?e_count_joiners ?k_count_joiners ?a_text_of_code ?l_text_of_code ?e_text_of_code ?k_text_of_code ?a_taken ?l_taken ?e_taken ?k_taken ?a_code_from ?l_code_from ?e_code_from ?k_code_from ?a_code_of_text ?l_code_of_text ?e_code_of_text ?k_code_of_text ?a_checked ?l_checked ?e_checked ?k_checked ?a_code_numbers ?l_code_numbers ?e_code_numbers ?k_code_numbers ?a_bytes_of_code ?l_bytes_of_code ?e_bytes_of_code ?k_bytes_of_code ?a_Reader_number ?l_Reader_number ?e_Reader_number ?k_Reader_number ?a_Reader_check ?l_Reader_check ?e_Reader_check ?k_Reader_check ?a_Reader_part ?l_Reader_part ?e_Reader_part ?k_Reader_part ?a_Reader_code ?l_Reader_code ?e_Reader_code ?k_Reader_code ?a_code_of_bytes ?l_code_of_bytes ?e_code_of_bytes ?k_code_of_bytes ?a__law_feed ?l__law_feed ?e__law_feed ?k__law_feed ?a__law_draw ?l__law_draw ?e__law_draw ?k__law_draw ?a__law_is_whole ?l__law_is_whole ?e__law_is_whole ?k__law_is_whole ?a__law_some_code ?l__law_some_code ?e__law_some_code ?k__law_some_code ?a__law_code_numbers ?l__law_code_numbers ?e__law_code_numbers ?k__law_code_numbers ?a__law_told ?l__law_told ?e__law_told ?k__law_told ?a__law_due ?l__law_due ?e__law_due ?k__law_due ?a__law_whole ?l__law_whole ?e__law_whole ?k__law_whole ?a__law_long ?l__law_long ?e__law_long ?k__law_long ?a__law_bent ?l__law_bent ?e__law_bent ?k__law_bent ?a_law ?l_law ?e_law ?k_law ?a_Reader_init ?l_Reader_init ?e_Reader_init ?k_Reader_init ?a_BadText_init ?l_BadText_init ?e_BadText_init ?k_BadText_init ?a_BadBytes_init ?l_BadBytes_init ?e_BadBytes_init ?k_BadBytes_init ?xL_BadText ?sa_BadText ?tf_BadText ?kc_BadText ?eC_BadText ?tC_BadText ?no_BadText_at ?xL_BadBytes ?sa_BadBytes ?tf_BadBytes ?kc_BadBytes ?eC_BadBytes ?tC_BadBytes ?no_BadBytes_at ?ga_BadBytes ?gg_BadBytes ?hC_BadBytes ?sC_BadBytes ?cl_BadBytes ?mo_BadBytes ?mk_Reader ?kc_Reader ?pg_Reader ?hd_Reader ?po_Reader ?sa_Reader ?na_Reader_numbers ?na_Reader_at ?na_Reader_parts ?if_Reader_number ?if_Reader_check ?if_Reader_part ?if_Reader_code ?if_Reader_init ?gt_JOINERS ?kt_JOINERS ?sp_ ?tk_ ?ki_BadBytes_BadText ?ki_BadBytes_OnceError ?z_abs ?z_bool ?z_int ?z_isinstance ?z_len ?z_list ?z_range ?z_repr ?z_str ?z_sum ?z_tuple ?v_CODE_MARK ?v_MODULUS ?v_MOST_JOINERS⟩
    (case g_OnceError => k_is)
    (case g_BadText => k_is)
    (case g_BadBytes => k_is)
    (case g_Reader => k_is)
    (case a_is_use => k_is)
    (case l_is_use => k_is)
    (case e_is_use => k_is)
    (case k_is_use => k_is)
    (case a_count_joiners => k_is)
    (case l_count_joiners => k_is)
    (case e_count_joiners => k_is)
    (case k_count_joiners => k_is)
    (case a_text_of_code => k_is)
    (case l_text_of_code => k_is)
    (case e_text_of_code => k_is)
    (case k_text_of_code => k_is)
    (case a_taken => k_is)
    (case l_taken => k_is)
    (case e_taken => k_is)
    (case k_taken => k_is)
    (case a_code_from => k_is)
    (case l_code_from => k_is)
    (case e_code_from => k_is)
    (case k_code_from => k_is)
    (case a_code_of_text => k_is)
    (case l_code_of_text => k_is)
    (case e_code_of_text => k_is)
    (case k_code_of_text => k_is)
    (case a_checked => k_is)
    (case l_checked => k_is)
    (case e_checked => k_is)
    (case k_checked => k_is)
    (case a_code_numbers => k_is)
    (case l_code_numbers => k_is)
    (case e_code_numbers => k_is)
    (case k_code_numbers => k_is)
    (case a_bytes_of_code => k_is)
    (case l_bytes_of_code => k_is)
    (case e_bytes_of_code => k_is)
    (case k_bytes_of_code => k_is)
    (case a_Reader_number => k_is)
    (case l_Reader_number => k_is)
    (case e_Reader_number => k_is)
    (case k_Reader_number => k_is)
    (case a_Reader_check => k_is)
    (case l_Reader_check => k_is)
    (case e_Reader_check => k_is)
    (case k_Reader_check => k_is)
    (case a_Reader_part => k_is)
    (case l_Reader_part => k_is)
    (case e_Reader_part => k_is)
    (case k_Reader_part => k_is)
    (case a_Reader_code => k_is)
    (case l_Reader_code => k_is)
    (case e_Reader_code => k_is)
    (case k_Reader_code => k_is)
    (case a_code_of_bytes => k_is)
    (case l_code_of_bytes => k_is)
    (case e_code_of_bytes => k_is)
    (case k_code_of_bytes => k_is)
    (case a__law_feed => k_is)
    (case l__law_feed => k_is)
    (case e__law_feed => k_is)
    (case k__law_feed => k_is)
    (case a__law_draw => k_is)
    (case l__law_draw => k_is)
    (case e__law_draw => k_is)
    (case k__law_draw => k_is)
    (case a__law_is_whole => k_is)
    (case l__law_is_whole => k_is)
    (case e__law_is_whole => k_is)
    (case k__law_is_whole => k_is)
    (case a__law_some_code => k_is)
    (case l__law_some_code => k_is)
    (case e__law_some_code => k_is)
    (case k__law_some_code => k_is)
    (case a__law_code_numbers => k_is)
    (case l__law_code_numbers => k_is)
    (case e__law_code_numbers => k_is)
    (case k__law_code_numbers => k_is)
    (case a__law_told => k_is)
    (case l__law_told => k_is)
    (case e__law_told => k_is)
    (case k__law_told => k_is)
    (case a__law_due => k_is)
    (case l__law_due => k_is)
    (case e__law_due => k_is)
    (case k__law_due => k_is)
    (case a__law_whole => k_is)
    (case l__law_whole => k_is)
    (case e__law_whole => k_is)
    (case k__law_whole => k_is)
    (case a__law_long => k_is)
    (case l__law_long => k_is)
    (case e__law_long => k_is)
    (case k__law_long => k_is)
    (case a__law_bent => k_is)
    (case l__law_bent => k_is)
    (case e__law_bent => k_is)
    (case k__law_bent => k_is)
    (case a_law => k_is)
    (case l_law => k_is)
    (case e_law => k_is)
    (case k_law => k_is)
    (case a_Reader_init => k_is)
    (case l_Reader_init => k_is)
    (case e_Reader_init => k_is)
    (case k_Reader_init => k_is)
    (case a_BadText_init => k_is)
    (case l_BadText_init => k_is)
    (case e_BadText_init => k_is)
    (case k_BadText_init => k_is)
    (case a_BadBytes_init => k_is)
    (case l_BadBytes_init => k_is)
    (case e_BadBytes_init => k_is)
    (case k_BadBytes_init => k_is)
    (case xL_BadText => k_is)
    (case sa_BadText => k_is)
    (case tf_BadText => k_is)
    (case kc_BadText => k_is)
    (case eC_BadText => k_is)
    (case tC_BadText => k_is)
    (case no_BadText_at => k_is)
    (case xL_BadBytes => k_is)
    (case sa_BadBytes => k_is)
    (case tf_BadBytes => k_is)
    (case kc_BadBytes => k_is)
    (case eC_BadBytes => k_is)
    (case tC_BadBytes => k_is)
    (case no_BadBytes_at => k_is)
    (case ga_BadBytes => k_is)
    (case gg_BadBytes => k_is)
    (case hC_BadBytes => k_is)
    (case sC_BadBytes => k_is)
    (case cl_BadBytes => k_is)
    (case mo_BadBytes => k_is)
    (case mk_Reader => k_is)
    (case kc_Reader => k_is)
    (case pg_Reader => k_is)
    (case hd_Reader => k_is)
    (case po_Reader => k_is)
    (case sa_Reader => k_is)
    (case na_Reader_numbers => k_is)
    (case na_Reader_at => k_is)
    (case na_Reader_parts => k_is)
    (case if_Reader_number => k_is)
    (case if_Reader_check => k_is)
    (case if_Reader_part => k_is)
    (case if_Reader_code => k_is)
    (case if_Reader_init => k_is)
    (case gt_JOINERS => k_is)
    (case kt_JOINERS => k_is)
    (case sp_ => k_is)
    (case tk_ => k_is)
    (case ki_BadBytes_BadText => kit_is)
    (case ki_BadBytes_OnceError => kit_is)
    (case z_abs => k_is)
    (case z_bool => k_is)
    (case z_int => k_is)
    (case z_isinstance => k_is)
    (case z_len => k_is)
    (case z_list => k_is)
    (case z_range => k_is)
    (case z_repr => k_is)
    (case z_str => k_is)
    (case z_sum => k_is)
    (case z_tuple => k_is)
    (case v_CODE_MARK => k_is)
    (case v_MODULUS => k_is)
    (case v_MOST_JOINERS => k_is)
#print axioms PySem.Challenge.cw_oncelinks_k53_whole_codes_as_numbers_holds
