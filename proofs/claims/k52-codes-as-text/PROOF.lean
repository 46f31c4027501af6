import PyProof.Rows.All
import Wide.All
import OpenK.AllK
import Wide.FinOn
import HandS.ForMost
import HandS.Exc
import HandS.ExcOwn
import HandS.ExcCtx
import HandS.HotCalls
import HandS.IsInst
import HandS.ExcField
import HandS.ExcIs
import KE.DataEq
import HandS.ExcInit
import KE.KExcIs
import PySem.Challenge.RW_oncelinks_k52_whole_codes_as_text
set_option Elab.async false
set_option linter.all false
set_option maxRecDepth 100000
set_option maxHeartbeats 4000000
/-! # A layer of data over HandS: what a def does, told over plain data and a small store of the lists that change. -/
namespace Once
open PySem PySem.Spec PyProof.Rows L2

/-- data: what never changes, and the names of what may -/
inductive D where
  | non | bl (b : Bool) | int (i : Int) | str (x : Str)
  | lst (xs : List D) | tup (xs : List D) | scr (ns : List Int)
  | mref (a : Addr) | exc (a : Addr) (c : Str) (dd : Option Addr) (ns : List Str) (vs : List D)

/-- a thing that may change -/
inductive MO where
  | lst (xs : List D)

abbrev Mu := Addr → Option MO
def put (μ : Mu) (a : Addr) (m : MO) : Mu := fun b => if b = a then some m else μ b
def cut (μ : Mu) (a : Addr) : Mu := fun b => if b = a then none else μ b
theorem put_same {μ : Mu} {a : Addr} {m : MO} : put μ a m a = some m := if_pos rfl
theorem put_ne {μ : Mu} {a b : Addr} {m : MO} (h : b ≠ a) : put μ a m b = μ b := if_neg h
theorem cut_same {μ : Mu} {a : Addr} : cut μ a a = none := if_pos rfl
theorem cut_ne {μ : Mu} {a b : Addr} (h : b ≠ a) : cut μ a b = μ b := if_neg h
theorem put_put {μ : Mu} {a : Addr} {m n : MO} : put (put μ a m) a n = put μ a n := by
  funext b; unfold put; split <;> rfl
theorem cut_put {μ : Mu} {a : Addr} {m : MO} (h : μ a = none) : cut (put μ a m) a = μ := by
  funext b; unfold cut put; split
  · rename_i e; rw [e, h]
  · rfl
theorem put_self {μ : Mu} {a : Addr} {m : MO} (h : μ a = some m) : put μ a m = μ := by
  funext b; unfold put; split
  · rename_i e; rw [e, h]
  · rfl
theorem put_comm {μ : Mu} {a b : Addr} {m n : MO} (h : a ≠ b) : put (put μ a m) b n = put (put μ b n) a m := by
  funext c; unfold put
  by_cases h1 : c = a
  · subst h1; rw [if_neg h, if_pos rfl, if_pos rfl]
  · rw [if_neg h1, if_neg h1]

section
variable (K : PySem.W.Frag) (G : Hp)
mutual
/-- v stands for the data d, by what G tells -/
inductive At : V → D → Prop
  | non : At .non .non
  | bl (b : Bool) : At (.bl b) (.bl b)
  | int (i : Int) : At (.int i) (.int i)
  | str (x : Str) : At (.str x) (.str x)
  | lst {a : Addr} {vs : List V} {ds : List D} : Rd G a (.lst vs) → AtAll vs ds → At (.ref a) (.lst ds)
  | tup {a : Addr} {vs : List V} {ds : List D} : Rd G a (.tup vs) → AtAll vs ds → At (.ref a) (.tup ds)
  | scr {a : Addr} {ns : List Int} : SqL K G a (ns.map V.int) → At (.ref a) (.scr ns)
  | mref (a : Addr) : At (.ref a) (.mref a)
  | exc0 (a : Addr) (c : Str) : At (.ref a) (.exc a c none [] [])
  | exc {a d : Addr} {c : Str} {fv : List (Str × V)} {ns : List Str} {ds : List D} : G d = some (.xd fv) → fv.map (·.1) = ns → AtAll (fv.map (·.2)) ds → At (.ref a) (.exc a c (some d) ns ds)
inductive AtAll : List V → List D → Prop
  | nil : AtAll [] []
  | cons {v : V} {vs : List V} {d : D} {ds : List D} : At v d → AtAll vs ds → AtAll (v :: vs) (d :: ds)
end
end

theorem sameT {K : PySem.W.Frag} {H H' : Hp} {a : Addr} {xs : List V} (e : Same H H') (h : SqT K H a xs) : SqT K H' a xs := by
  rcases h with (h | ⟨o, h⟩) | h
  · exact .inl (.inl (e _ _ h))
  · exact .inl (.inr ⟨o, e _ _ h⟩)
  · exact .inr h

theorem rdUp {H H' : Hp} {a : Addr} {u : HO} (e : Same H H') (h : Rd H a u) : Rd H' a u := by
  rcases h with h | ⟨o, h⟩
  · exact .inl (e _ _ h)
  · exact .inr ⟨o, e _ _ h⟩
section
variable {K : PySem.W.Frag} {G G' H H' : Hp}
mutual
theorem At.up (S : Same G G') : ∀ {v : V} {d : D}, At K G v d → At K G' v d
  | _, _, .non => .non
  | _, _, .bl b => .bl b
  | _, _, .int i => .int i
  | _, _, .str x => .str x
  | _, _, .lst h r => .lst (rdUp S h) (AtAll.up S r)
  | _, _, .tup h r => .tup (rdUp S h) (AtAll.up S r)
  | _, _, .scr h => .scr (S.seq h)
  | _, _, .mref a => .mref a
  | _, _, .exc0 a c => .exc0 a c
  | _, _, .exc h e r => .exc (S _ _ h) e (AtAll.up S r)
theorem AtAll.up (S : Same G G') : ∀ {vs : List V} {ds : List D}, AtAll K G vs ds → AtAll K G' vs ds
  | _, _, .nil => .nil
  | _, _, .cons h r => .cons (h.up S) (AtAll.up S r)
end
theorem AtAll.length : ∀ {vs : List V} {ds : List D}, AtAll K G vs ds → vs.length = ds.length
  | _, _, .nil => rfl
  | _, _, .cons _ r => by rw [List.length_cons, List.length_cons, AtAll.length r]
theorem AtAll.get : ∀ {vs : List V} {ds : List D} {i : Nat} {d : D}, AtAll K G vs ds → ds[i]? = some d → ∃ v, vs[i]? = some v ∧ At K G v d
  | _, _, _, _, .nil, e => by simp at e
  | _, _, 0, _, .cons h _, e => by simp at e; subst e; exact ⟨_, rfl, h⟩
  | _, _, i + 1, d, .cons _ r, e => by
    obtain ⟨v, h1, h2⟩ := AtAll.get (i := i) (d := d) r (by simpa using e)
    exact ⟨v, by simpa using h1, h2⟩
theorem AtAll.getV : ∀ {vs : List V} {ds : List D} {i : Nat} {v : V}, AtAll K G vs ds → vs[i]? = some v → ∃ d, ds[i]? = some d ∧ At K G v d
  | _, _, _, _, .nil, e => by simp at e
  | _, _, 0, _, .cons h _, e => by simp at e; subst e; exact ⟨_, rfl, h⟩
  | _, _, i + 1, d, .cons _ r, e => by
    obtain ⟨v, h1, h2⟩ := AtAll.getV (i := i) (v := d) r (by simpa using e)
    exact ⟨v, by simpa using h1, h2⟩
theorem AtAll.append : ∀ {vs ws : List V} {ds es : List D}, AtAll K G vs ds → AtAll K G ws es → AtAll K G (vs ++ ws) (ds ++ es)
  | _, _, _, _, .nil, s => s
  | _, _, _, _, .cons h r, s => .cons h (AtAll.append r s)
theorem AtAll.take : ∀ {vs : List V} {ds : List D} (n : Nat), AtAll K G vs ds → AtAll K G (vs.take n) (ds.take n)
  | _, _, 0, _ => .nil
  | _, _, _ + 1, .nil => .nil
  | _, _, n + 1, .cons h r => .cons h (AtAll.take n r)
theorem AtAll.drop : ∀ {vs : List V} {ds : List D} (n : Nat), AtAll K G vs ds → AtAll K G (vs.drop n) (ds.drop n)
  | _, _, 0, r => r
  | _, _, _ + 1, .nil => .nil
  | _, _, n + 1, .cons _ r => AtAll.drop n r
theorem AtAll.set : ∀ {vs : List V} {ds : List D} (i : Nat) {v : V} {d : D}, At K G v d → AtAll K G vs ds → AtAll K G (vs.set i v) (ds.set i d)
  | _, _, _, _, _, _, .nil => .nil
  | _, _, 0, _, _, h, .cons _ t => .cons h t
  | _, _, i + 1, _, _, h, .cons q t => .cons q (AtAll.set i h t)
theorem AtAll.reverse : ∀ {vs : List V} {ds : List D}, AtAll K G vs ds → AtAll K G vs.reverse ds.reverse
  | _, _, .nil => .nil
  | _, _, .cons h r => by rw [List.reverse_cons, List.reverse_cons]; exact (AtAll.reverse r).append (.cons h .nil)
theorem AtAll.ints : ∀ (ns : List Int), AtAll K G (ns.map V.int) (ns.map D.int)
  | [] => .nil
  | n :: r => .cons (.int n) (AtAll.ints r)
theorem AtAll.dropLast : ∀ {vs : List V} {ds : List D}, AtAll K G vs ds → AtAll K G vs.dropLast ds.dropLast := fun {vs ds} r => by
  rw [List.dropLast_eq_take, List.dropLast_eq_take, r.length]
  exact r.take _

/-- how a changing thing stands at a -/
def MoAt (K : PySem.W.Frag) (G H : Hp) (a : Addr) : MO → Prop
  | .lst xs => ∃ vs, H a = some (.lst vs) ∧ AtAll K G vs xs
structure Rep (K : PySem.W.Frag) (G H : Hp) (μ : Mu) : Prop where
  sub : Same G H
  mu : ∀ a m, μ a = some m → G a = none ∧ MoAt K G H a m
theorem same_upd {H : Hp} {p : Addr} {o : HO} (h : H p = none) : Same H (upd H p o) := fun b u e => by
  rw [upd_ne (ne_of_none e h)]; exact e
theorem MoAt.there {a : Addr} {m : MO} (h : MoAt K G H a m) : ∃ o, H a = some o := by
  cases m with
  | lst xs => obtain ⟨vs, e, _⟩ := h; exact ⟨_, e⟩
theorem Rep.new {μ : Mu} {p : Addr} {o : HO} (R : Rep K G H μ) (hp : H p = none) : Rep K (upd G p o) (upd H p o) μ := by
  have gp := R.sub.free hp
  refine ⟨fun b u e => ?_, fun a m e => ?_⟩
  · by_cases hb : b = p
    · subst hb; rw [upd_same] at e ⊢; exact e
    · rw [upd_ne hb] at e ⊢; exact R.sub b u e
  · obtain ⟨ga, q⟩ := R.mu a m e
    obtain ⟨o', ha⟩ := q.there
    have hne : a ≠ p := ne_of_none ha hp
    refine ⟨by rw [upd_ne hne]; exact ga, ?_⟩
    cases m with
    | lst xs => obtain ⟨vs, e1, e2⟩ := q; exact ⟨vs, by rw [upd_ne hne]; exact e1, e2.up (same_upd gp)⟩
theorem Rep.fresh {μ : Mu} {p : Addr} (R : Rep K G H μ) (hp : H p = none) : μ p = none := by
  cases e : μ p with
  | none => rfl
  | some m =>
    obtain ⟨o, ho⟩ := (R.mu p m e).2.there
    rw [ho] at hp; cases hp
/-- a thing at a is laid anew or changed -/
theorem Rep.lay {μ : Mu} {a : Addr} {vs : List V} {xs : List D} (R : Rep K G H μ) (ga : G a = none) (h : AtAll K G vs xs) : Rep K G (upd H a (.lst vs)) (put μ a (.lst xs)) := by
  refine ⟨fun b u e => ?_, fun b m e => ?_⟩
  · have hb : b ≠ a := ne_of_none e ga
    rw [upd_ne hb]; exact R.sub b u e
  · by_cases hb : b = a
    · subst hb
      rw [put_same] at e; cases e
      exact ⟨ga, vs, upd_same, h⟩
    · rw [put_ne hb] at e
      obtain ⟨gb, q⟩ := R.mu b m e
      refine ⟨gb, ?_⟩
      cases m with
      | lst ys => obtain ⟨ws, e1, e2⟩ := q; exact ⟨ws, by rw [upd_ne hb]; exact e1, e2⟩
/-- a thing changes no more -/
theorem Rep.freeze {μ : Mu} {a : Addr} {xs : List D} (R : Rep K G H μ) (h : μ a = some (.lst xs)) : ∃ vs, AtAll K G vs xs ∧ Same G (upd G a (.lst vs)) ∧ Rep K (upd G a (.lst vs)) H (cut μ a) ∧ At K (upd G a (.lst vs)) (.ref a) (.lst xs) := by
  obtain ⟨ga, vs, e1, e2⟩ := R.mu a _ h
  have S : Same G (upd G a (.lst vs)) := same_upd ga
  refine ⟨vs, e2, S, ⟨fun b u e => ?_, fun b m e => ?_⟩, .lst (.of upd_same) (e2.up S)⟩
  · by_cases hb : b = a
    · subst hb; rw [upd_same] at e; rw [e1]; exact e
    · rw [upd_ne hb] at e; exact R.sub b u e
  · by_cases hb : b = a
    · subst hb; rw [cut_same] at e; cases e
    · rw [cut_ne hb] at e
      obtain ⟨gb, q⟩ := R.mu b m e
      refine ⟨by rw [upd_ne hb]; exact gb, ?_⟩
      cases m with
      | lst ys => obtain ⟨ws, e1, e2⟩ := q; exact ⟨ws, e1, e2.up S⟩
theorem Rep.drop {μ : Mu} {a : Addr} (R : Rep K G H μ) : Rep K G H (cut μ a) := ⟨R.sub, fun b m e => by
  by_cases hb : b = a
  · subst hb; rw [cut_same] at e; cases e
  · rw [cut_ne hb] at e; exact R.mu b m e⟩
end

/-! ### readings over data -/
abbrev St := L2.St
abbrev Ds := List (Option D)
abbrev Fs := List Str × List D
abbrev DX := Ds → Str → Fs → Mu → Prop
abbrev DK := D → Mu → Prop
abbrev DE := Ds → Mu → DX → DK → Prop
abbrev DT := Ds → Mu → DX → (Bool → Mu → Prop) → Prop
abbrev DA := Ds → Mu → DX → (List D → Mu → Prop) → Prop
structure DEnds where
  nx : Ds → Mu → Prop
  rt : DK
  bk : Ds → Mu → Prop
  ct : Ds → Mu → Prop
  ex : DX
abbrev DS := DEnds → Ds → Mu → Prop

def SlotsAt (K : PySem.W.Frag) (G : Hp) (σ : St) (δ : Ds) : Prop := σ.length = δ.length ∧ ∀ (i : Nat) (d : D), δ[i]? = some (some d) → ∃ v, σ[i]? = some (some v) ∧ At K G v d
section
variable {K : PySem.W.Frag} {G G' H H' : Hp} {σ : St} {δ : Ds}
theorem SlotsAt.up (S : Same G G') (h : SlotsAt K G σ δ) : SlotsAt K G' σ δ := ⟨h.1, fun i d e => let ⟨v, h1, h2⟩ := h.2 i d e; ⟨v, h1, h2.up S⟩⟩
theorem SlotsAt.set {i : Nat} {v : V} {d : D} (h : SlotsAt K G σ δ) (a : At K G v d) : SlotsAt K G (σ.set i (some v)) (δ.set i (some d)) := by
  refine ⟨by rw [List.length_set, List.length_set]; exact h.1, fun j d' e => ?_⟩
  by_cases hj : i = j
  · subst hj
    rw [List.getElem?_set_self'] at e
    have hl : i < δ.length := by
      cases q : δ[i]? with
      | none => rw [q] at e; simp at e
      | some z => exact (List.getElem?_eq_some_iff.mp q).1
    rw [List.getElem?_eq_getElem hl] at e
    simp at e
    subst e
    exact ⟨v, by rw [List.getElem?_set_self (by rw [h.1]; exact hl)], a⟩
  · rw [List.getElem?_set_ne hj] at e
    obtain ⟨w, e1, e2⟩ := h.2 j d' e
    exact ⟨w, by rw [List.getElem?_set_ne hj]; exact e1, e2⟩
theorem SlotsAt.setN {i : Nat} (h : SlotsAt K G σ δ) : SlotsAt K G (σ.set i none) (δ.set i none) := by
  refine ⟨by rw [List.length_set, List.length_set]; exact h.1, fun j d' e => ?_⟩
  by_cases hj : i = j
  · subst hj
    rw [List.getElem?_set_self'] at e
    cases q : δ[i]? with
    | none => rw [q] at e; simp at e
    | some z => rw [q] at e; simp at e
  · rw [List.getElem?_set_ne hj] at e
    obtain ⟨w, e1, e2⟩ := h.2 j d' e
    exact ⟨w, by rw [List.getElem?_set_ne hj]; exact e1, e2⟩
end

/-- an exception of the class named c, with these fields -/
def XAt (K : PySem.W.Frag) (mg : Str → Option Value) (G : Hp) (c : Str) (fs : Fs) (cls : Value) (dd : Option Addr) : Prop :=
  ∃ C : Addr, cls = .ref C ∧ mg c = some (.ref C) ∧ ((dd = none ∧ fs = ([], [])) ∨ ∃ (d : Addr) (fv : List (Str × V)), dd = some d ∧ G d = some (.xd fv) ∧ fv.map (·.1) = fs.1 ∧ AtAll K G (fv.map (·.2)) fs.2)

/-- what is to hold of a value and the store, said of a V and the heap -/
def FinV (K : PySem.W.Frag) (G : Hp) (k : DK) (Q : VK) : Prop := ∀ G' H' v r μ', Same G G' → Rep K G' H' μ' → At K G' v r → k r μ' → Q v H'
def FinB (K : PySem.W.Frag) (G : Hp) (k : Bool → Mu → Prop) (Q : Bool → Hp → Prop) : Prop := ∀ G' H' b μ', Same G G' → Rep K G' H' μ' → k b μ' → Q b H'
def FinA (K : PySem.W.Frag) (n : Nat) (G : Hp) (k : List D → Mu → Prop) (Q : List V → Hp → Prop) : Prop := ∀ G' H' vs ds μ', Same G G' → Rep K G' H' μ' → AtAll K G' vs ds → ds.length = n → k ds μ' → Q vs H'
def FinX (K : PySem.W.Frag) (mg : Str → Option Value) (W : WX) (G : Hp) (x : DX) : Prop :=
  ∀ G' H' σ' δ' c fs cls dd μ', Same G G' → Rep K G' H' μ' → SlotsAt K G' σ' δ' → XAt K mg G' c fs cls dd → x δ' c fs μ' → W cls dd σ' H'
def FinN (K : PySem.W.Frag) (G : Hp) (k : Ds → Mu → Prop) (Q : St → Hp → Prop) : Prop := ∀ G' H' σ' δ' μ', Same G G' → Rep K G' H' μ' → SlotsAt K G' σ' δ' → k δ' μ' → Q σ' H'
section
variable {K : PySem.W.Frag} {mg : Str → Option Value} {W : WX} {G G' H H' : Hp} {n : Nat}
theorem FinV.up {k : DK} {Q : VK} (S : Same G G') (f : FinV K G k Q) : FinV K G' k Q := fun G2 H2 v r μ s => f G2 H2 v r μ (S.trans s)
theorem FinB.up {k : Bool → Mu → Prop} {Q : Bool → Hp → Prop} (S : Same G G') (f : FinB K G k Q) : FinB K G' k Q := fun G2 H2 b μ s => f G2 H2 b μ (S.trans s)
theorem FinA.up {k : List D → Mu → Prop} {Q : List V → Hp → Prop} (S : Same G G') (f : FinA K n G k Q) : FinA K n G' k Q := fun G2 H2 v r μ s => f G2 H2 v r μ (S.trans s)
theorem FinX.up {x : DX} (S : Same G G') (f : FinX K mg W G x) : FinX K mg W G' x := fun G2 H2 σ δ c fs cls dd μ s => f G2 H2 σ δ c fs cls dd μ (S.trans s)
theorem FinN.up {k : Ds → Mu → Prop} {Q : St → Hp → Prop} (S : Same G G') (f : FinN K G k Q) : FinN K G' k Q := fun G2 H2 σ δ μ s => f G2 H2 σ δ μ (S.trans s)
end

def liftE (K : PySem.W.Frag) (mg : Str → Option Value) (W : WX) (d : DE) : TE := fun σ H Q => ∃ (G : Hp) (δ : Ds) (μ : Mu) (x : DX) (k : DK), Rep K G H μ ∧ SlotsAt K G σ δ ∧ d δ μ x k ∧ FinV K G k Q ∧ FinX K mg W G x
def liftT (K : PySem.W.Frag) (mg : Str → Option Value) (W : WX) (d : DT) : TT := fun σ H Q => ∃ (G : Hp) (δ : Ds) (μ : Mu) (x : DX) (k : Bool → Mu → Prop), Rep K G H μ ∧ SlotsAt K G σ δ ∧ d δ μ x k ∧ FinB K G k Q ∧ FinX K mg W G x
def liftA (K : PySem.W.Frag) (mg : Str → Option Value) (W : WX) (n : Nat) (d : DA) : TA := fun σ H Q => ∃ (G : Hp) (δ : Ds) (μ : Mu) (x : DX) (k : List D → Mu → Prop), Rep K G H μ ∧ SlotsAt K G σ δ ∧ d δ μ x k ∧ FinA K n G k Q ∧ FinX K mg W G x
structure FinS (K : PySem.W.Frag) (mg : Str → Option Value) (W : WX) (G : Hp) (E : DEnds) (T : Ends) : Prop where
  nx : FinN K G E.nx T.nx
  rt : FinV K G E.rt T.rt
  bk : FinN K G E.bk T.bk
  ct : FinN K G E.ct T.ct
  ex : FinX K mg W G E.ex
theorem FinS.up {K : PySem.W.Frag} {mg : Str → Option Value} {W : WX} {G G' : Hp} {E : DEnds} {T : Ends} (S : Same G G') (f : FinS K mg W G E T) : FinS K mg W G' E T := ⟨f.nx.up S, f.rt.up S, f.bk.up S, f.ct.up S, f.ex.up S⟩
def liftS (K : PySem.W.Frag) (mg : Str → Option Value) (W : WX) (d : DS) : TS := fun T σ H => ∃ (G : Hp) (δ : Ds) (μ : Mu) (E : DEnds), Rep K G H μ ∧ SlotsAt K G σ δ ∧ d E δ μ ∧ FinS K mg W G E T

abbrev QE (X : Cx) (W : WX) (e : Expr) (d : DE) : Prop := PE X e (liftE X.K X.mg W d)
abbrev QT (X : Cx) (W : WX) (e : Expr) (d : DT) : Prop := PT X e (liftT X.K X.mg W d)
abbrev QW (X : Cx) (W : WX) (e : Expr) (d : DT) : Prop := PW X e (liftT X.K X.mg W d)
abbrev QA (X : Cx) (W : WX) (es : List Expr) (d : DA) : Prop := PA X es (liftA X.K X.mg W es.length d)
abbrev QS (X : Cx) (W : WX) (st : Stmt) (d : DS) : Prop := PS X st (liftS X.K X.mg W d)
abbrev QSs (X : Cx) (W : WX) (st : List Stmt) (d : DS) : Prop := PSs X st (liftS X.K X.mg W d)

theorem imE {X : Cx} {e : Expr} {t t' : TE} (h : PE X e t) (i : ∀ σ H Q, t' σ H Q → t σ H Q) : PE X e t' := ⟨fun pins s σ H Q I q => h.run pins s σ H Q I (i σ H Q q)⟩
theorem imT {X : Cx} {e : Expr} {t t' : TT} (h : PT X e t) (i : ∀ σ H Q, t' σ H Q → t σ H Q) : PT X e t' := ⟨fun pins s σ H Q I q => h.run pins s σ H Q I (i σ H Q q)⟩
theorem imW {X : Cx} {e : Expr} {t t' : TT} (h : PW X e t) (i : ∀ σ H Q, t' σ H Q → t σ H Q) : PW X e t' := ⟨fun wh pins s σ H Q I q => h.run wh pins s σ H Q I (i σ H Q q)⟩
theorem imA {X : Cx} {es : List Expr} {t t' : TA} (h : PA X es t) (i : ∀ σ H Q, t' σ H Q → t σ H Q) : PA X es t' := ⟨fun pos pins s σ H Q I q => h.run pos pins s σ H Q I (i σ H Q q)⟩
theorem imS {X : Cx} {st : Stmt} {t t' : TS} (h : PS X st t) (i : ∀ D σ H, t' D σ H → t D σ H) : PS X st t' := ⟨fun pins s σ H D I q => h.run pins s σ H D I (i D σ H q)⟩
theorem imSs {X : Cx} {st : List Stmt} {t t' : TS} (h : PSs X st t) (i : ∀ D σ H, t' D σ H → t D σ H) : PSs X st t' := ⟨fun pins s σ H D I q => h.run pins s σ H D I (i D σ H q)⟩

/-! ### names, constants, arguments -/
def dVar (i : Nat) : DE := fun δ μ _ k => ∃ d, δ[i]? = some (some d) ∧ k d μ
def dC (c : D) : DE := fun _ μ _ k => k c μ
def dNil : DA := fun _ μ _ k => k [] μ
def dCons (a : DE) (r : DA) : DA := fun δ μ x k => a δ μ x fun d μ1 => r δ μ1 x fun ds μ2 => k (d :: ds) μ2
def dTup (t : DA) : DE := fun δ μ x k => t δ μ x fun ds μ1 => k (.tup ds) μ1
/-- a list that stays -/
def dLst (t : DA) : DE := fun δ μ x k => t δ μ x fun ds μ1 => k (.lst ds) μ1
/-- a list that may change -/
def dNew (t : DA) : DE := fun δ μ x k => t δ μ x fun ds μ1 => ∀ a, μ1 a = none → k (.mref a) (put μ1 a (.lst ds))
section
variable {X : Cx} {W : WX} {e a b : Expr} {es : List Expr} {da db : DE} {t : DA} {pos : Pos}
theorem qv (i : Nat) {x : Str} {pos : Pos} (hN : X.N[i]? = some x := by rfl) (hv : Vis X.env.scope x := by first | exact Or.inl rfl | exact Or.inr (Or.inl rfl) | exact Or.inr (Or.inr rfl)) (hd : (x == ("__debug__" : Str)) = false := by decide)
    (hcd : (x == ("__classdict__" : Str)) = false := by decide) : QE X W (.Name x pos) (dVar i) := imE (pe_var hN hv hd hcd) fun σ H Q ⟨G, δ, μ, x, k, R, S, ⟨d, e, q⟩, f, _⟩ => by
  obtain ⟨v, e1, a1⟩ := S.2 i d e
  exact ⟨v, e1, f G H v d μ (Same.refl _) R a1 q⟩
theorem qc {v : V} {c : D} (h : PE X e (tC v)) (hv : ∀ G, At X.K G v c) : QE X W e (dC c) := imE h fun σ H Q ⟨G, δ, μ, x, k, R, S, q, f, _⟩ => f G H v c μ (Same.refl _) R (hv G) q
theorem q_int {i : Int} {j : Nat} : QE X W (.Constant (.int i) j pos) (dC (.int i)) := qc pe_int fun _ => .int i
theorem q_bl {b : Bool} {j : Nat} : QE X W (.Constant (.bool b) j pos) (dC (.bl b)) := qc pe_bl fun _ => .bl b
theorem q_non {j : Nat} : QE X W (.Constant .none j pos) (dC .non) := qc pe_non fun _ => .non
theorem q_str {x : Str} {j : Nat} : QE X W (.Constant (.str x) j pos) (dC (.str x)) := qc pe_str fun _ => .str x
theorem qa_nil : QA X W [] dNil := imA pa_nil fun σ H Q ⟨G, δ, μ, x, k, R, S, q, f, _⟩ => f G H [] [] μ (Same.refl _) R .nil rfl q
theorem qa_cons (ha : QE X W e da) (hr : QA X W es t) (hs : starEach (e :: es) X.env = (false, eval e X.env) :: starEach es X.env := by rfl) : QA X W (e :: es) (dCons da t) :=
  imA (pa_cons ha hr hs) fun σ H Q ⟨G, δ, μ, x, k, R, S, q, f, fx⟩ =>
    ⟨G, δ, μ, x, _, R, S, q, fun G1 H1 v d μ1 S1 R1 A1 q1 =>
      ⟨G1, δ, μ1, x, _, R1, S.up S1, q1, fun G2 H2 vs ds μ2 S2 R2 A2 hn q2 => f G2 H2 (v :: vs) (d :: ds) μ2 (S1.trans S2) R2 (.cons (A1.up S2) A2) (by rw [List.length_cons, hn]; rfl) q2, fx.up S1⟩, fx⟩
theorem q_tup {j : Nat} (h : QA X W es t) (hl : es.length ≤ 1000 := by decide) : QE X W (.Tuple es j pos) (dTup t) :=
  imE (pe_tup h) fun σ H Q ⟨G, δ, μ, x, k, R, S, q, f, fx⟩ =>
    ⟨G, δ, μ, x, _, R, S, q, fun G1 H1 vs ds μ1 S1 R1 A1 hn q1 => ⟨Nat.le_of_lt (small1000 (by rw [A1.length, hn]; exact hl)), fun p hp => by
      have gp := R1.sub.free hp
      exact f (upd G1 p (.tup vs)) _ (.ref p) (.tup ds) μ1 (S1.trans (same_upd gp)) (R1.new hp) (.tup (.of upd_same) (A1.up (same_upd gp))) q1⟩, fx⟩
theorem q_lst (h : QA X W es t) (hl : es.length ≤ 1000 := by decide) : QE X W (.List es pos) (dLst t) :=
  imE (pe_lst h) fun σ H Q ⟨G, δ, μ, x, k, R, S, q, f, fx⟩ =>
    ⟨G, δ, μ, x, _, R, S, q, fun G1 H1 vs ds μ1 S1 R1 A1 hn q1 => ⟨Nat.le_of_lt (small1000 (by rw [A1.length, hn]; exact hl)), fun p hp => by
      have gp := R1.sub.free hp
      exact f (upd G1 p (.lst vs)) _ (.ref p) (.lst ds) μ1 (S1.trans (same_upd gp)) (R1.new hp) (.lst (.of upd_same) (A1.up (same_upd gp))) q1⟩, fx⟩
theorem q_new (h : QA X W es t) (hl : es.length ≤ 1000 := by decide) : QE X W (.List es pos) (dNew t) :=
  imE (pe_lst h) fun σ H Q ⟨G, δ, μ, x, k, R, S, q, f, fx⟩ =>
    ⟨G, δ, μ, x, _, R, S, q, fun G1 H1 vs ds μ1 S1 R1 A1 hn q1 => ⟨Nat.le_of_lt (small1000 (by rw [A1.length, hn]; exact hl)), fun p hp =>
      f G1 _ (.ref p) (.mref p) _ S1 (R1.lay (R1.sub.free hp) A1) (.mref p) (q1 p (R1.fresh hp))⟩, fx⟩
end
end Once

namespace Once
open PySem PySem.Spec PyProof.Rows L2

/-! ### data as the library's -/
mutual
def toPy : D → PyData
  | .non => .none
  | .bl b => .bool b
  | .int i => .int i
  | .str x => .str x
  | .lst xs => .list (toPys xs)
  | .tup xs => .tuple (toPys xs)
  | .scr ns => .list (ns.map PyData.int)
  | .mref _ => .none
  | .exc _ _ _ _ _ => .none
def toPys : List D → List PyData
  | [] => []
  | x :: xs => toPy x :: toPys xs
end
mutual
/-- nothing in it may change -/
def okD : D → Bool
  | .lst xs => okDs xs
  | .tup xs => okDs xs
  | .mref _ => false
  | .exc _ _ _ _ _ => false
  | _ => true
def okDs : List D → Bool
  | [] => true
  | x :: xs => okD x && okDs xs
end
mutual
def deepD : D → Nat
  | .lst xs => deepDs xs + 1
  | .tup xs => deepDs xs + 1
  | .scr _ => 1
  | _ => 0
def deepDs : List D → Nat
  | [] => 0
  | x :: xs => max (deepD x) (deepDs xs)
end
def eqD (d e : D) : Bool := PyData.eqv (toPy d) (toPy e)
theorem depth_ints : ∀ ns : List Int, PyData.depthAll (ns.map PyData.int) = 0
  | [] => by simp [PyData.depthAll]
  | n :: r => by rw [List.map_cons, PyData.depthAll, depth_ints r]; simp [PyData.depth]
theorem plain_ints : ∀ ns : List Int, PyData.plainAll (ns.map PyData.int) = true
  | [] => by simp [PyData.plainAll]
  | n :: r => by rw [List.map_cons, PyData.plainAll, plain_ints r]; simp [PyData.plain]
mutual
theorem deep_py : ∀ d : D, (toPy d).depth ≤ deepD d
  | .non => by simp [toPy, PyData.depth]
  | .bl b => by simp [toPy, PyData.depth]
  | .int i => by simp [toPy, PyData.depth]
  | .str x => by simp [toPy, PyData.depth]
  | .lst xs => by have := deep_pys xs; simp only [toPy, PyData.depth, deepD]; omega
  | .tup xs => by have := deep_pys xs; simp only [toPy, PyData.depth, deepD]; omega
  | .scr ns => by simp only [toPy, PyData.depth, deepD, depth_ints]; omega
  | .mref _ => by simp [toPy, PyData.depth]
  | .exc _ _ _ _ _ => by simp [toPy, PyData.depth]
theorem deep_pys : ∀ ds : List D, PyData.depthAll (toPys ds) ≤ deepDs ds
  | [] => by simp [toPys, PyData.depthAll]
  | x :: xs => by have h1 := deep_py x; have h2 := deep_pys xs; simp only [toPys, PyData.depthAll, deepDs]; omega
end
mutual
theorem plain_py : ∀ d : D, (toPy d).plain = true
  | .non => by simp [toPy, PyData.plain]
  | .bl b => by simp [toPy, PyData.plain]
  | .int i => by simp [toPy, PyData.plain]
  | .str x => by simp [toPy, PyData.plain]
  | .lst xs => by have := plain_pys xs; simpa only [toPy, PyData.plain] using this
  | .tup xs => by have := plain_pys xs; simpa only [toPy, PyData.plain] using this
  | .scr ns => by simp only [toPy, PyData.plain, plain_ints]
  | .mref _ => by simp [toPy, PyData.plain]
  | .exc _ _ _ _ _ => by simp [toPy, PyData.plain]
theorem plain_pys : ∀ ds : List D, PyData.plainAll (toPys ds) = true
  | [] => by simp [toPys, PyData.plainAll]
  | x :: xs => by have h1 := plain_py x; have h2 := plain_pys xs; simp only [toPys, PyData.plainAll, h1, h2, Bool.and_self]
end
theorem dp_ints {K : PySem.W.Frag} {H : Hp} : ∀ ns : List Int, DpAll K H (ns.map V.int) (ns.map PyData.int)
  | [] => .nil
  | n :: r => .cons (.int n) (dp_ints r)
mutual
theorem dp_of {K : PySem.W.Frag} {G H : Hp} (S : Same G H) : ∀ {v : V} {d : D}, At K G v d → okD d = true → Dp K H v (toPy d)
  | _, _, .non, _ => by simpa only [toPy] using Dp.non
  | _, _, .bl b, _ => by simpa only [toPy] using Dp.bl b
  | _, _, .int i, _ => by simpa only [toPy] using Dp.int i
  | _, _, .str x, _ => by simpa only [toPy] using Dp.str x
  | _, _, .lst h r, o => by simpa only [toPy] using Dp.lst (.inl (rdUp S h)) (dps_of S r (by simpa [okD] using o))
  | _, _, .tup h r, o => by simpa only [toPy] using Dp.tup (.inl (rdUp S h)) (dps_of S r (by simpa [okD] using o))
  | _, _, .scr (ns := ns) h, _ => by simpa only [toPy] using Dp.lst (S.seq h) (dp_ints ns)
  | _, _, .mref a, o => by simp [okD] at o
  | _, _, .exc0 a c, o => by simp [okD] at o
  | _, _, .exc _ _ _, o => by simp [okD] at o
theorem dps_of {K : PySem.W.Frag} {G H : Hp} (S : Same G H) : ∀ {vs : List V} {ds : List D}, AtAll K G vs ds → okDs ds = true → DpAll K H vs (toPys ds)
  | _, _, .nil, _ => by simpa only [toPys] using DpAll.nil
  | _, _, .cons (d := d) (ds := ds) h r, o => by
    have o' : okD d = true ∧ okDs ds = true := by simpa [okDs] using o
    simpa only [toPys] using DpAll.cons (dp_of S h o'.1) (dps_of S r o'.2)
end

/-- the room that a def's body has -/
structure RoomD (k : Nat) (A : Around) : Prop where
  hd : A.handled = none
  gd : A.guards = some []
  dp : A.depth + k + 30 < recursionLimit
  un : A.units + 8 * k + 900 < cLine
theorem RoomD.room {k : Nat} {A : Around} (r : RoomD k A) : Room 6 A := ⟨r.hd, by have := r.dp; omega, by have := r.un; omega⟩
theorem RoomD.deeper {k : Nat} {A : Around} (r : RoomD (k + 1) A) (env : Env) : RoomD k (A.deeper env) :=
  ⟨r.hd, r.gd, by have := r.dp; show A.depth + 1 + k + 30 < _; omega, by have := r.un; show A.units + 3 + 8 * k + 900 < _; omega⟩
/-- what a body has of units, handled or not -/
def Un0 (A : Around) : Prop := A.units + 900 < cLine ∧ A.guards = some []
theorem RoomD.un0 {k : Nat} {A : Around} (r : RoomD k A) : Un0 A := ⟨by have := r.un; omega, r.gd⟩

/-! ### operators on values -/
abbrev G2 := D → D → Mu → DK → Prop
/-- what f on two values asks -/
def rW (X : Cx) (f : Value → Value → Sem Value) : R2 := fun x y H Q => ∀ (pins : List (Addr × Obj)) (s : Shared) (σ : St) (v u : Value), Inv X pins σ H s → RelV x v → RelV y u →
  wpAny (model X.prog X.w) X.A (f v u) (EP X pins σ Q) X.xe s
theorem opW {X : Cx} {f : Value → Value → Sem Value} : OpR X f (rW X f) := fun pins s σ H x y v u Q I rx ry h => h pins s σ v u I rx ry
def OpQ (X : Cx) (f : Value → Value → Sem Value) (g : G2) : Prop :=
  ∀ (G H : Hp) (μ : Mu) (x y : V) (d e : D) (k : DK) (Q : VK), Rep X.K G H μ → At X.K G x d → At X.K G y e → g d e μ k → FinV X.K G k Q → rW X f x y H Q
def dOp (g : G2) (da db : DE) : DE := fun δ μ x k => da δ μ x fun d μ1 => db δ μ1 x fun e μ2 => g d e μ2 k
/-- a rule of HandS's at these values -/
theorem byR {X : Cx} {f : Value → Value → Sem Value} {r : R2} (h : OpR X f r) {x y : V} {H : Hp} {Q : VK} (q : r x y H Q) : rW X f x y H Q := fun pins s σ v u I rx ry => h pins s σ H x y v u Q I rx ry q

section
variable {X : Cx} {W : WX} {a b : Expr} {da db : DE} {pos : Pos}
theorem im2 {r : R2} {g : G2} {K : PySem.W.Frag} {mg : Str → Option Value} (h : ∀ (G H : Hp) (μ : Mu) (x y : V) (d e : D) (k : DK) (Q : VK), Rep K G H μ → At K G x d → At K G y e → g d e μ k → FinV K G k Q → r x y H Q) :
    ∀ σ H Q, liftE K mg W (dOp g da db) σ H Q → tOp r (liftE K mg W da) (liftE K mg W db) σ H Q := fun σ H Q ⟨G, δ, μ, x, k, R, S, q, f, fx⟩ =>
  ⟨G, δ, μ, x, _, R, S, q, fun G1 H1 v d μ1 S1 R1 A1 q1 =>
    ⟨G1, δ, μ1, x, _, R1, S.up S1, q1, fun G2 H2 u e μ2 S2 R2 A2 q2 => h G2 H2 μ2 v u d e k Q R2 (A1.up S2) A2 q2 (f.up (S1.trans S2)), fx.up S1⟩, fx⟩
theorem q_op {op : Operator} {g : G2} (ho : OpQ X (binaryOp op) g) (ha : QE X W a da) (hb : QE X W b db) : QE X W (.BinOp a op b pos) (dOp g da db) :=
  imE (pe_op opW ha hb) (im2 ho)
theorem q_cmp {op : CmpOp} {g : G2} (ho : OpQ X (compareOp op) g) (ha : QE X W a da) (hb : QE X W b db) (hm : behindInMarks op b = false := by first | exact nobehind _ (by decide) (by decide) | rfl) : QE X W (.Compare a [op] [b] pos) (dOp g da db) :=
  imE (pe_cmpR opW ha hb hm) (im2 ho)
/-- .. as a test -/
def dB (t : DE) : DT := fun δ μ x k => t δ μ x fun d μ1 => ∃ b, d = .bl b ∧ k b μ1
theorem imB {K : PySem.W.Frag} {mg : Str → Option Value} {d : DE} : ∀ σ H Q, liftT K mg W (dB d) σ H Q → tTest (liftE K mg W d) σ H Q := fun σ H Q ⟨G, δ, μ, x, k, R, S, q, f, fx⟩ =>
  ⟨G, δ, μ, x, _, R, S, q, fun G1 H1 v d μ1 S1 R1 A1 ⟨b, e, q1⟩ => by
    subst e
    cases A1
    exact ⟨b, rfl, f G1 H1 b μ1 S1 R1 q1⟩, fx⟩
/-- an expression that gives True or False, as a test -/
theorem qt {e : Expr} {d : DE} (h : QE X W e d) (he : ∀ whole, isTrue e X.env whole = (do let v ← whole; standAt e.pos; holding [v] (truthy v)) := by intro _; rfl) : QT X W e (dB d) :=
  imT (pt_val h he) imB
theorem qt_cmp {op : CmpOp} {g : G2} (ho : OpQ X (compareOp op) g) (ha : QE X W a da) (hb : QE X W b db) (hm : behindInMarks op b = false := by first | exact nobehind _ (by decide) (by decide) | rfl) : QT X W (.Compare a [op] [b] pos) (dB (dOp g da db)) :=
  imT (pt_cmp (op := op) (t := liftE X.K X.mg W (dOp g da db)) ⟨fun pins s σ H Q I h => by
    refine thn (ha.run pins s σ H _ I (im2 (da := da) (db := db) ho σ H Q h)) fun v s1 ⟨x, H1, I1, r1, q1⟩ => ?_
    refine thn (hb.run pins s1 σ H1 _ I1 q1) fun u s2 ⟨y, H2, I2, r2, q2⟩ => ?_
    exact q2 pins s2 σ v u I2 r1 r2⟩ hm) imB

/-! ### a list, as it can be read -/
def seqOf (μ : Mu) : D → Option (List D)
  | .lst xs => some xs
  | .scr ns => some (ns.map D.int)
  | .mref a => match μ a with
    | some (.lst xs) => some xs
    | _ => none
  | _ => none
theorem vals_ints2 {K : PySem.W.Frag} {G : Hp} : ∀ ns : List Int, AtAll K G (ns.map V.int) (ns.map D.int) := AtAll.ints
theorem seqOf_mref {μ : Mu} {a : Addr} {xs : List D} (e : seqOf μ (.mref a) = some xs) : μ a = some (.lst xs) := by
  cases q : μ a with
  | none => simp only [seqOf, q] at e; cases e
  | some m =>
    cases m with
    | lst ys => simp only [seqOf, q] at e; cases e; rfl
theorem seq_rd {K : PySem.W.Frag} {G H : Hp} {μ : Mu} {v : V} {d : D} {xs : List D} (R : Rep K G H μ) (h : At K G v d) (e : seqOf μ d = some xs) : ∃ p vs, v = .ref p ∧ AtAll K G vs xs ∧ (Rd H p (.lst vs) ∨ ∃ ns, d = .scr ns ∧ SqL K H p vs) := by
  cases h with
  | lst h r => cases e; exact ⟨_, _, rfl, r, .inl (rdUp R.sub h)⟩
  | @scr a ns h => cases e; exact ⟨_, _, rfl, AtAll.ints _, .inr ⟨ns, rfl, R.sub.seq h⟩⟩
  | mref a =>
    obtain ⟨_, vs, e1, e2⟩ := R.mu a _ (seqOf_mref e)
    exact ⟨a, vs, rfl, e2, .inl (.of e1)⟩
  | _ => cases e
theorem seq_at {K : PySem.W.Frag} {G H : Hp} {μ : Mu} {v : V} {d : D} {xs : List D} (R : Rep K G H μ) (h : At K G v d) (e : seqOf μ d = some xs) : ∃ p vs, v = .ref p ∧ SqL K H p vs ∧ AtAll K G vs xs := by
  obtain ⟨p, vs, e1, e2, e3⟩ := seq_rd R h e
  rcases e3 with e3 | ⟨_, _, e3⟩
  · exact ⟨p, vs, e1, .inl e3, e2⟩
  · exact ⟨p, vs, e1, e3, e2⟩

/-! ### plus -/
def isScr : D → Bool
  | .scr _ => true
  | _ => false
def gAdd : G2
  | .int i, .int j => fun μ k => k (.int (i + j)) μ
  | .str a, .str b => fun μ k => a.length + b.length ≤ sizeLine ∧ k (.str (a ++ b)) μ
  | .tup xs, .tup ys => fun μ k => xs ≠ [] ∧ ys ≠ [] ∧ xs.length + ys.length ≤ sizeLine ∧ k (.tup (xs ++ ys)) μ
  | d, e => fun μ k => isScr d = false ∧ isScr e = false ∧ ∃ xs ys, seqOf μ d = some xs ∧ seqOf μ e = some ys ∧ xs.length + ys.length ≤ sizeLine ∧ k (.lst (xs ++ ys)) μ
/-- two lists that are tracked, changing or not -/
theorem cat_any : OpR X (binaryOp .Add) (fun x y H Q => ∃ l b xs zs, x = .ref l ∧ y = .ref b ∧ Rd H l (.lst xs) ∧ Rd H b (.lst zs) ∧ xs.length + zs.length ≤ sizeLine ∧ ∀ p, H p = none → Q (.ref p) (upd H p (.lst (xs ++ zs)))) := by
  intro pins s σ H x y v u Q I rx ry h
  obtain ⟨l, b, xs, zs, rfl, rfl, hH, hB, hz, q⟩ := h
  cases rx
  cases ry
  obtain ⟨z, its, n, r, e⟩ := hH.ok I.hok
  obtain ⟨z2, its2, n2, r2, e2⟩ := hB.ok I.hok
  have hl := r.length
  have hl2 := r2.length
  refine PySem.P.add_list e e2 ?_ (by rw [List.size_toArray, List.size_toArray]; omega)
  have ea : its.toArray ++ its2.toArray = (its ++ its2).toArray := by simp
  rw [ea]
  exact ⟨.ref _, _, I.lnew (t' := s.toks) (r.append r2) (by rw [List.length_append]; omega), rfl, q _ I.fresh⟩
theorem cat_lists {G H : Hp} {μ : Mu} {x y : V} {d e : D} {k : DK} {Q : VK} (R : Rep X.K G H μ) (ax : At X.K G x d) (ay : At X.K G y e) (f : FinV X.K G k Q)
    (h : isScr d = false ∧ isScr e = false ∧ ∃ xs ys, seqOf μ d = some xs ∧ seqOf μ e = some ys ∧ xs.length + ys.length ≤ sizeLine ∧ k (.lst (xs ++ ys)) μ) : rW X (binaryOp .Add) x y H Q := by
  obtain ⟨sd, se, xs, ys, e1, e2, hz, q⟩ := h
  obtain ⟨p, vs, rfl, a1, c1⟩ := seq_rd R ax e1
  obtain ⟨p2, vs2, rfl, a2, c2⟩ := seq_rd R ay e2
  have r1 : Rd H p (.lst vs) := by
    rcases c1 with c | ⟨ns, ed, _⟩
    · exact c
    · subst ed; cases sd
  have r2 : Rd H p2 (.lst vs2) := by
    rcases c2 with c | ⟨ns, ed, _⟩
    · exact c
    · subst ed; cases se
  refine byR cat_any ⟨p, p2, vs, vs2, rfl, rfl, r1, r2, by rw [a1.length, a2.length]; exact hz, fun p3 hp => ?_⟩
  have gp := R.sub.free hp
  exact f (upd G p3 (.lst (vs ++ vs2))) _ (.ref p3) (.lst (xs ++ ys)) μ (same_upd gp) (R.new hp) (.lst (.of upd_same) ((a1.append a2).up (same_upd gp))) q
theorem oq_add : OpQ X (binaryOp .Add) gAdd := by
  intro G H μ x y d e k Q R ax ay h f
  cases d with
  | int i =>
    cases e with
    | int j => cases ax; cases ay; exact byR op_add ⟨i, j, rfl, rfl, f G H _ _ μ (Same.refl _) R (.int _) h⟩
    | _ => exact cat_lists R ax ay f h
  | str a =>
    cases e with
    | str b => cases ax; cases ay; exact byR op_add_str ⟨a, b, rfl, rfl, h.1, f G H _ _ μ (Same.refl _) R (.str _) h.2⟩
    | _ => exact cat_lists R ax ay f h
  | tup xs =>
    cases e with
    | tup ys =>
      cases ax with
      | tup h1 r1 =>
        cases ay with
        | tup h2 r2 =>
          obtain ⟨n1, n2, hz, q⟩ := h
          have l1 := r1.length
          have l2 := r2.length
          refine byR op_catT ⟨_, _, _, _, rfl, rfl, .inl (rdUp R.sub h1), .inl (rdUp R.sub h2), fun z => n1 ?_, by omega, fun z => absurd ?_ n2, fun _ p hp => ?_⟩
          · subst z; exact List.eq_nil_of_length_eq_zero l1.symm
          · subst z; exact List.eq_nil_of_length_eq_zero l2.symm
          · have gp := R.sub.free hp
            exact f (upd G p _) _ (.ref p) (.tup _) μ (same_upd gp) (R.new hp) (.tup (.of upd_same) ((r1.append r2).up (same_upd gp))) q
    | _ => exact cat_lists R ax ay f h
  | _ => exact cat_lists R ax ay f h
end
end Once

namespace Once
open PySem PySem.Spec PyProof.Rows L2
section
variable {X : Cx} {W : WX} {a b e o : Expr} {es : List Expr} {da db : DE} {t : DA} {pos : Pos}

/-! ### ints -/
def gInt (C : Int → Int → Prop) (g : Int → Int → D) : G2
  | .int i, .int j => fun μ k => C i j ∧ k (g i j) μ
  | _, _ => fun _ _ => False
def gInt0 (g : Int → Int → D) : G2
  | .int i, .int j => fun μ k => k (g i j) μ
  | _, _ => fun _ _ => False
theorem oq_int {f : Value → Value → Sem Value} {C : Int → Int → Prop} {g : Int → Int → D} {gv : Int → Int → V} (h : OpR X f (rI C gv)) (hg : ∀ G i j, At X.K G (gv i j) (g i j)) : OpQ X f (gInt C g) := by
  intro G H μ x y d e k Q R ax ay q f
  cases d with
  | int i =>
    cases e with
    | int j => cases ax; cases ay; exact byR h ⟨i, j, rfl, rfl, q.1, f G H _ _ μ (Same.refl _) R (hg G i j) q.2⟩
    | _ => exact q.elim
  | _ => exact (show False from q).elim
theorem oq_int0 {f : Value → Value → Sem Value} {g : Int → Int → D} {gv : Int → Int → V} (h : OpR X f (rI0 gv)) (hg : ∀ G i j, At X.K G (gv i j) (g i j)) : OpQ X f (gInt0 g) := by
  intro G H μ x y d e k Q R ax ay q f
  cases d with
  | int i =>
    cases e with
    | int j => cases ax; cases ay; exact byR h ⟨i, j, rfl, rfl, f G H _ _ μ (Same.refl _) R (hg G i j) q⟩
    | _ => exact q.elim
  | _ => exact (show False from q).elim
abbrev gSub : G2 := gInt0 fun i j => .int (i - j)
abbrev gMul : G2 := gInt CMul fun i j => .int (i * j)
abbrev gDiv : G2 := gInt CDiv fun i j => .int (i / j)
abbrev gMod : G2 := gInt (fun _ j => 0 < j) fun i j => .int (i % j)
abbrev gPow : G2 := gInt CPow fun i j => .int (i ^ j.toNat)
abbrev gLt : G2 := gInt0 fun i j => .bl (decide (i < j))
abbrev gLe : G2 := gInt0 fun i j => .bl (decide (i ≤ j))
abbrev gGt : G2 := gInt0 fun i j => .bl (decide (j < i))
abbrev gGe : G2 := gInt0 fun i j => .bl (decide (j ≤ i))
theorem oq_sub : OpQ X (binaryOp .Sub) gSub := oq_int0 op_sub fun _ _ _ => .int _
theorem oq_mul : OpQ X (binaryOp .Mult) gMul := oq_int op_mul fun _ _ _ => .int _
theorem oq_div : OpQ X (binaryOp .FloorDiv) gDiv := oq_int op_fdiv fun _ _ _ => .int _
theorem oq_mod : OpQ X (binaryOp .Mod) gMod := oq_int op_mod fun _ _ _ => .int _
theorem oq_pow : OpQ X (binaryOp .Pow) gPow := oq_int op_pow fun _ _ _ => .int _
theorem oq_lt : OpQ X (compareOp .Lt) gLt := oq_int0 op_lt fun _ _ _ => .bl _
theorem oq_le : OpQ X (compareOp .LtE) gLe := oq_int0 op_le fun _ _ _ => .bl _
theorem oq_gt : OpQ X (compareOp .Gt) gGt := oq_int0 op_gt fun _ _ _ => .bl _
theorem oq_ge : OpQ X (compareOp .GtE) gGe := oq_int0 op_ge fun _ _ _ => .bl _

/-! ### == and in -/
def gEq : G2 := fun d e μ k => okD d = true ∧ okD e = true ∧ min (deepD d) (deepD e) ≤ 800 ∧ k (.bl (eqD d e)) μ
def gNe : G2 := fun d e μ k => okD d = true ∧ okD e = true ∧ min (deepD d) (deepD e) ≤ 800 ∧ k (.bl (!eqD d e)) μ
theorem min_deep {d e : D} {n : Nat} (h : min (deepD d) (deepD e) ≤ n) : min (toPy d).depth (toPy e).depth ≤ n := by
  have h1 := deep_py d; have h2 := deep_py e; omega
theorem oq_eq (hu : Un0 X.A) : OpQ X (compareOp .Eq) gEq := fun G H μ x y d e k Q R ax ay ⟨o1, o2, hm, q⟩ f pins s σ v u I rx ry => by
  obtain ⟨as, r1⟩ := Dp.reads I _ x v (dp_of R.sub ax o1) rx
  obtain ⟨bs, r2⟩ := Dp.reads I _ y u (dp_of R.sub ay o2) ry
  refine SeqAt.eq_plain r1 r2 (plain_py d) (plain_py e) (by have := min_deep hm; have := hu.1; omega) ⟨.bl _, H, I, rfl, f G H _ _ μ (Same.refl _) R (.bl _) q⟩
theorem oq_ne (hu : Un0 X.A) : OpQ X (compareOp .NotEq) gNe := fun G H μ x y d e k Q R ax ay ⟨o1, o2, hm, q⟩ f pins s σ v u I rx ry => by
  obtain ⟨as, r1⟩ := Dp.reads I _ x v (dp_of R.sub ax o1) rx
  obtain ⟨bs, r2⟩ := Dp.reads I _ y u (dp_of R.sub ay o2) ry
  refine SeqAt.ne_plain r1 r2 (plain_py d) (plain_py e) (by have := min_deep hm; have := hu.1; omega) ⟨.bl _, H, I, rfl, f G H _ _ μ (Same.refl _) R (.bl _) q⟩
/-- one sign in a text; anything in a list or a tuple -/
def anyD (d : D) (xs : List D) : Bool := xs.any fun y => eqD y d
theorem any_py (d : D) : ∀ xs : List D, (toPys xs).any (fun y => PyData.eqv y (toPy d)) = anyD d xs
  | [] => by simp [toPys, anyD]
  | x :: xs => by
    have := any_py d xs
    unfold anyD at this ⊢
    simp only [toPys, List.any_cons, this, eqD]
def gInB (p : Bool → Bool) : G2
  | .str a, .str z => fun μ k => ∃ c, a = ⟨#[c]⟩ ∧ k (.bl (p (decide (c ∈ z.cps.toList)))) μ
  | d, .tup xs => fun μ k => okD d = true ∧ okDs xs = true ∧ min (deepDs xs) (deepD d) ≤ 800 ∧ k (.bl (p (anyD d xs))) μ
  | d, e => fun μ k => ∃ xs, seqOf μ e = some xs ∧ okD d = true ∧ okDs xs = true ∧ min (deepDs xs) (deepD d) ≤ 800 ∧ k (.bl (p (anyD d xs))) μ
abbrev gIn : G2 := gInB id
abbrev gNotIn : G2 := gInB not
theorem min_deeps {d : D} {xs : List D} {n : Nat} (h : min (deepDs xs) (deepD d) ≤ n) : min (PyData.depthAll (toPys xs)) (toPy d).depth ≤ n := by
  have h1 := deep_py d; have h2 := deep_pys xs; omega
theorem in_seq (hu : Un0 X.A) {G H : Hp} {μ : Mu} {x y : V} {d e : D} {k : DK} {Q : VK} (R : Rep X.K G H μ) (ax : At X.K G x d) (ay : At X.K G y e) (f : FinV X.K G k Q)
    (h : ∃ xs, seqOf μ e = some xs ∧ okD d = true ∧ okDs xs = true ∧ min (deepDs xs) (deepD d) ≤ 800 ∧ k (.bl (anyD d xs)) μ) : rW X (compareOp .In) x y H Q := fun pins s σ v u I rx ry => by
  obtain ⟨xs, hs, o1, o2, hm, q⟩ := h
  obtain ⟨p, vs, rfl, hl, ha⟩ := seq_at R ay hs
  obtain ⟨as, r1⟩ := Dp.reads I _ x v (dp_of R.sub ax o1) rx
  obtain ⟨bs, r2⟩ := Dp.reads I (.list (toPys xs)) (.ref p) u (.lst hl (dps_of R.sub ha o2)) ry
  refine SeqAt.in_list_data r2 r1 (plain_pys xs) (plain_py d) (by have := min_deeps hm; have := hu.1; omega) ?_
  rw [any_py]
  exact ⟨.bl _, H, I, rfl, f G H _ _ μ (Same.refl _) R (.bl _) q⟩
theorem notIn_seq (hu : Un0 X.A) {G H : Hp} {μ : Mu} {x y : V} {d e : D} {k : DK} {Q : VK} (R : Rep X.K G H μ) (ax : At X.K G x d) (ay : At X.K G y e) (f : FinV X.K G k Q)
    (h : ∃ xs, seqOf μ e = some xs ∧ okD d = true ∧ okDs xs = true ∧ min (deepDs xs) (deepD d) ≤ 800 ∧ k (.bl (!anyD d xs)) μ) : rW X (compareOp .NotIn) x y H Q := fun pins s σ v u I rx ry => by
  obtain ⟨xs, hs, o1, o2, hm, q⟩ := h
  obtain ⟨p, vs, rfl, hl, ha⟩ := seq_at R ay hs
  obtain ⟨as, r1⟩ := Dp.reads I _ x v (dp_of R.sub ax o1) rx
  obtain ⟨bs, r2⟩ := Dp.reads I (.list (toPys xs)) (.ref p) u (.lst hl (dps_of R.sub ha o2)) ry
  refine SeqAt.notIn_list_data r2 r1 (plain_pys xs) (plain_py d) (by have := min_deeps hm; have := hu.1; omega) ?_
  rw [any_py]
  exact ⟨.bl _, H, I, rfl, f G H _ _ μ (Same.refl _) R (.bl _) q⟩
theorem oq_in (hu : Un0 X.A) : OpQ X (compareOp .In) gIn := by
  intro G H μ x y d e k Q R ax ay h f
  have tups : ∀ xs, At X.K G y (.tup xs) → okD d = true ∧ okDs xs = true ∧ min (deepDs xs) (deepD d) ≤ 800 ∧ k (.bl (anyD d xs)) μ → rW X (compareOp .In) x y H Q := fun xs ay' ⟨o1, o2, hm, q⟩ pins s σ v u I rx ry => by
    obtain ⟨as, r1⟩ := Dp.reads I _ x v (dp_of R.sub ax o1) rx
    have h2 := dp_of R.sub ay' (by simpa [okD] using o2)
    simp only [toPy] at h2
    obtain ⟨bs, r2⟩ := Dp.reads I _ y u h2 ry
    refine SeqAt.in_tuple_data r2 r1 (plain_pys xs) (plain_py d) (by have := min_deeps hm; have := hu.1; omega) ?_
    rw [any_py]
    exact ⟨.bl _, H, I, rfl, f G H _ _ μ (Same.refl _) R (.bl _) q⟩
  cases e with
  | tup xs => cases d <;> exact tups xs ay h
  | str z =>
    cases d with
    | str a =>
      cases ax; cases ay
      obtain ⟨c, rfl, q⟩ := h
      exact byR op_in_sign ⟨c, z, rfl, rfl, f G H _ _ μ (Same.refl _) R (.bl _) q⟩
    | _ => exact in_seq hu R ax ay f h
  | _ => cases d <;> exact in_seq hu R ax ay f h
theorem oq_notIn (hu : Un0 X.A) : OpQ X (compareOp .NotIn) gNotIn := by
  intro G H μ x y d e k Q R ax ay h f
  have tups : ∀ xs, At X.K G y (.tup xs) → okD d = true ∧ okDs xs = true ∧ min (deepDs xs) (deepD d) ≤ 800 ∧ k (.bl (!anyD d xs)) μ → rW X (compareOp .NotIn) x y H Q := fun xs ay' ⟨o1, o2, hm, q⟩ pins s σ v u I rx ry => by
    obtain ⟨as, r1⟩ := Dp.reads I _ x v (dp_of R.sub ax o1) rx
    have h2 := dp_of R.sub ay' (by simpa [okD] using o2)
    simp only [toPy] at h2
    obtain ⟨bs, r2⟩ := Dp.reads I _ y u h2 ry
    refine SeqAt.notIn_tuple_data r2 r1 (plain_pys xs) (plain_py d) (by have := min_deeps hm; have := hu.1; omega) ?_
    rw [any_py]
    exact ⟨.bl _, H, I, rfl, f G H _ _ μ (Same.refl _) R (.bl _) q⟩
  cases e with
  | tup xs => cases d <;> exact tups xs ay h
  | str z =>
    cases d with
    | str a =>
      cases ax; cases ay
      obtain ⟨c, rfl, q⟩ := h
      exact byR op_notIn_sign ⟨c, z, rfl, rfl, f G H _ _ μ (Same.refl _) R (.bl _) q⟩
    | _ => exact notIn_seq hu R ax ay f h
  | _ => cases d <;> exact notIn_seq hu R ax ay f h
/-! ### is None -/
def isNon : D → Bool
  | .non => true
  | _ => false
theorem at_non {K : PySem.W.Frag} {G : Hp} {v : V} {d : D} (h : At K G v d) : decide (v = .non) = isNon d := by
  cases h <;> first | rfl | exact decide_eq_false (fun z => by cases z)
def dIsN (da : DE) : DE := fun δ μ x k => da δ μ x fun d μ1 => k (.bl (isNon d)) μ1
def dNotN (da : DE) : DE := fun δ μ x k => da δ μ x fun d μ1 => k (.bl (!isNon d)) μ1
theorem q_isN {j : Nat} {p : Pos} (ha : QE X W a da) : QE X W (.Compare a [.Is] [.Constant .none j p] pos) (dIsN da) :=
  imE (pe_cmp (pc_isN ha) (by rfl)) fun σ H Q ⟨G, δ, μ, x, k, R, S, q, f, fx⟩ => ⟨G, δ, μ, x, _, R, S, q, fun G1 H1 v d μ1 S1 R1 A1 q1 => by
    show Q (.bl (decide (v = .non))) H1
    rw [at_non A1]; exact f G1 H1 _ _ μ1 S1 R1 (.bl _) q1, fx⟩
theorem q_notN {j : Nat} {p : Pos} (ha : QE X W a da) : QE X W (.Compare a [.IsNot] [.Constant .none j p] pos) (dNotN da) :=
  imE (pe_cmp (pc_notN ha) (by rfl)) fun σ H Q ⟨G, δ, μ, x, k, R, S, q, f, fx⟩ => ⟨G, δ, μ, x, _, R, S, q, fun G1 H1 v d μ1 S1 R1 A1 q1 => by
    show Q (.bl (!decide (v = .non))) H1
    rw [at_non A1]; exact f G1 H1 _ _ μ1 S1 R1 (.bl _) q1, fx⟩

/-! ### and, or, not; if -/
def dAnd (p q : DT) : DT := fun δ μ x k => p δ μ x fun b μ1 => if b = true then q δ μ1 x k else k false μ1
def dOr (p q : DT) : DT := fun δ μ x k => p δ μ x fun b μ1 => if b = true then k true μ1 else q δ μ1 x k
def dNot (p : DT) : DT := fun δ μ x k => p δ μ x fun b μ1 => k (!b) μ1
variable {dp dq : DT} {rest : List Expr}
theorem qw_and1 (h : QT X W a dp) : QW X W (.BoolOp .And [a] pos) dp := pw_and1 h
theorem qw_or1 (h : QT X W a dp) : QW X W (.BoolOp .Or [a] pos) dp := pw_or1 h
theorem qw_and (h : QT X W a dp) (h2 : QW X W (.BoolOp .And (b :: rest) pos) dq) : QW X W (.BoolOp .And (a :: b :: rest) pos) (dAnd dp dq) :=
  imW (pw_and h h2) fun σ H Q ⟨G, δ, μ, x, k, R, S, q, f, fx⟩ => ⟨G, δ, μ, x, _, R, S, q, fun G1 H1 c μ1 S1 R1 q1 => by
    cases c with
    | true => exact iteT ⟨G1, δ, μ1, x, k, R1, S.up S1, by simpa using q1, f.up S1, fx.up S1⟩
    | false => exact iteF (f G1 H1 false μ1 S1 R1 (by simpa using q1)), fx⟩
theorem qw_or (h : QT X W a dp) (h2 : QW X W (.BoolOp .Or (b :: rest) pos) dq) : QW X W (.BoolOp .Or (a :: b :: rest) pos) (dOr dp dq) :=
  imW (pw_or h h2) fun σ H Q ⟨G, δ, μ, x, k, R, S, q, f, fx⟩ => ⟨G, δ, μ, x, _, R, S, q, fun G1 H1 c μ1 S1 R1 q1 => by
    cases c with
    | true => exact iteT (f G1 H1 true μ1 S1 R1 (by simpa using q1))
    | false => exact iteF ⟨G1, δ, μ1, x, k, R1, S.up S1, by simpa using q1, f.up S1, fx.up S1⟩, fx⟩
theorem qt_not (h : QT X W a dp) : QT X W (.UnaryOp .Not a pos) (dNot dp) :=
  imT (pt_not h) fun σ H Q ⟨G, δ, μ, x, k, R, S, q, f, fx⟩ => ⟨G, δ, μ, x, _, R, S, q, fun G1 H1 c μ1 S1 R1 q1 => f G1 H1 (!c) μ1 S1 R1 q1, fx⟩
theorem qt_bool {e : Expr} {d : DT} (h : QW X W e d) : QT X W e d := PW.pt h
def dIfE (p : DT) (da db : DE) : DE := fun δ μ x k => p δ μ x fun b μ1 => if b = true then da δ μ1 x k else db δ μ1 x k
theorem q_ifE {c : Expr} (hc : QT X W c dp) (ha : QE X W a da) (hb : QE X W b db) : QE X W (.IfExp c a b pos) (dIfE dp da db) :=
  imE (pe_ifExp hc ha hb) fun σ H Q ⟨G, δ, μ, x, k, R, S, q, f, fx⟩ => ⟨G, δ, μ, x, _, R, S, q, fun G1 H1 c μ1 S1 R1 q1 => by
    cases c with
    | true => exact iteT ⟨G1, δ, μ1, x, k, R1, S.up S1, by simpa using q1, f.up S1, fx.up S1⟩
    | false => exact iteF ⟨G1, δ, μ1, x, k, R1, S.up S1, by simpa using q1, f.up S1, fx.up S1⟩, fx⟩
/-- .. as values -/
def dAndV (da db : DE) : DE := fun δ μ x k => da δ μ x fun d μ1 => ∃ b, d = .bl b ∧ if b = true then db δ μ1 x k else k (.bl false) μ1
def dOrV (da db : DE) : DE := fun δ μ x k => da δ μ x fun d μ1 => ∃ b, d = .bl b ∧ if b = true then k (.bl true) μ1 else db δ μ1 x k
def dNotV (da : DE) : DE := fun δ μ x k => da δ μ x fun d μ1 => ∃ b, d = .bl b ∧ k (.bl (!b)) μ1
theorem q_one {op : BoolOp} (h : QE X W a da) : QE X W (.BoolOp op [a] pos) da := pe_one h
theorem q_and (ha : QE X W a da) (hb : QE X W (.BoolOp .And (b :: rest) pos) db) : QE X W (.BoolOp .And (a :: b :: rest) pos) (dAndV da db) :=
  imE (pe_and ha hb) fun σ H Q ⟨G, δ, μ, x, k, R, S, q, f, fx⟩ => ⟨G, δ, μ, x, _, R, S, q, fun G1 H1 v d μ1 S1 R1 A1 ⟨c, e, q1⟩ => by
    subst e
    cases A1
    refine ⟨c, rfl, ?_⟩
    cases c with
    | true => exact iteT ⟨G1, δ, μ1, x, k, R1, S.up S1, by simpa using q1, f.up S1, fx.up S1⟩
    | false => exact iteF (f G1 H1 _ _ μ1 S1 R1 (.bl false) (by simpa using q1)), fx⟩
theorem q_or (ha : QE X W a da) (hb : QE X W (.BoolOp .Or (b :: rest) pos) db) : QE X W (.BoolOp .Or (a :: b :: rest) pos) (dOrV da db) :=
  imE (pe_or ha hb) fun σ H Q ⟨G, δ, μ, x, k, R, S, q, f, fx⟩ => ⟨G, δ, μ, x, _, R, S, q, fun G1 H1 v d μ1 S1 R1 A1 ⟨c, e, q1⟩ => by
    subst e
    cases A1
    refine ⟨c, rfl, ?_⟩
    cases c with
    | true => exact iteT (f G1 H1 _ _ μ1 S1 R1 (.bl true) (by simpa using q1))
    | false => exact iteF ⟨G1, δ, μ1, x, k, R1, S.up S1, by simpa using q1, f.up S1, fx.up S1⟩, fx⟩
theorem q_not (ha : QE X W a da) : QE X W (.UnaryOp .Not a pos) (dNotV da) :=
  imE (pe_not ha) fun σ H Q ⟨G, δ, μ, x, k, R, S, q, f, fx⟩ => ⟨G, δ, μ, x, _, R, S, q, fun G1 H1 v d μ1 S1 R1 A1 ⟨c, e, q1⟩ => by
    subst e
    cases A1
    exact ⟨c, rfl, f G1 H1 _ _ μ1 S1 R1 (.bl _) q1⟩, fx⟩

/-! ### an item, a slice -/
def gIx : G2
  | .tup xs, .int i => fun μ k => ∃ v, atI xs i = some v ∧ k v μ
  | .str z, .int i => fun μ k => z.length ≤ sizeLine ∧ ∃ c, atI z.cps.toList i = some c ∧ k (.str ⟨#[c]⟩) μ
  | d, .int i => fun μ k => ∃ xs v, seqOf μ d = some xs ∧ atI xs i = some v ∧ k v μ
  | _, _ => fun _ _ => False
theorem atI_at {K : PySem.W.Frag} {G : Hp} {vs : List V} {ds : List D} {i : Int} {d : D} (h : AtAll K G vs ds) (e : atI ds i = some d) : ∃ v, atI vs i = some v ∧ At K G v d := by
  unfold atI at e ⊢
  rw [h.length]
  cases q : ixN ds.length i with
  | none => rw [q] at e; cases e
  | some j =>
    rw [q] at e
    simp only [Option.bind_some] at e ⊢
    exact h.get e
theorem q_ix (ha : QE X W a da) (hb : QE X W b db) (hs : PlainIx b := by exact fun _ _ => rfl) : QE X W (.Subscript a b pos) (dOp gIx da db) := by
  refine imE (pe_ix ix_seq ha hb hs) (im2 ?_)
  intro G H μ x y d e k Q R ax ay h f
  have seqs : ∀ i, At X.K G y (.int i) → (∃ xs v, seqOf μ d = some xs ∧ atI xs i = some v ∧ k v μ) → rIx X.K x y H Q := fun i ay' ⟨xs, v, e1, e2, q⟩ => by
    cases ay'
    obtain ⟨p, vs, rfl, hl, hA⟩ := seq_at R ax e1
    obtain ⟨w, e3, aw⟩ := atI_at hA e2
    exact .inl ⟨p, vs, i, w, rfl, rfl, hl, e3, f G H _ _ μ (Same.refl _) R aw q⟩
  cases e with
  | int i =>
    cases d with
    | tup xs =>
      cases ax with
      | tup h1 r1 =>
        cases ay
        obtain ⟨v, e2, q⟩ := h
        obtain ⟨w, e3, aw⟩ := atI_at r1 e2
        exact .inr (.inl ⟨_, _, i, w, rfl, rfl, .inl (rdUp R.sub h1), e3, f G H _ _ μ (Same.refl _) R aw q⟩)
    | str z =>
      cases ax; cases ay
      obtain ⟨hz, c, e2, q⟩ := h
      exact .inr (.inr ⟨z, i, c, rfl, rfl, hz, e2, f G H _ _ μ (Same.refl _) R (.str _) q⟩)
    | _ => exact seqs i ay h
  | _ => cases d <;> exact (show False from h).elim
abbrev DO := Ds → Mu → DX → (Option Int → Mu → Prop) → Prop
def FinO (K : PySem.W.Frag) (G : Hp) (k : Option Int → Mu → Prop) (Q : Option Int → Hp → Prop) : Prop := ∀ G' H' o μ', Same G G' → Rep K G' H' μ' → k o μ' → Q o H'
def liftO (K : PySem.W.Frag) (mg : Str → Option Value) (W : WX) (d : DO) : TO := fun σ H Q => ∃ (G : Hp) (δ : Ds) (μ : Mu) (x : DX) (k : Option Int → Mu → Prop), Rep K G H μ ∧ SlotsAt K G σ δ ∧ d δ μ x k ∧ FinO K G k Q ∧ FinX K mg W G x
abbrev QO (X : Cx) (W : WX) (e : Option Expr) (d : DO) : Prop := PO X e (liftO X.K X.mg W d)
theorem imO {e : Option Expr} {t t' : TO} (h : PO X e t) (i : ∀ σ H Q, t' σ H Q → t σ H Q) : PO X e t' := ⟨fun pins s σ H Q I q => h.run pins s σ H Q I (i σ H Q q)⟩
def dNoPart : DO := fun _ μ _ k => k none μ
def dPart (da : DE) : DO := fun δ μ x k => da δ μ x fun d μ1 => ∃ i, d = .int i ∧ k (some i) μ1
theorem qo_none : QO X W none dNoPart := imO po_none fun σ H Q ⟨G, δ, μ, x, k, R, S, q, f, fx⟩ => f G H none μ (Same.refl _) R q
theorem qo_some (h : QE X W e da) : QO X W (some e) (dPart da) := imO (po_some h) fun σ H Q ⟨G, δ, μ, x, k, R, S, q, f, fx⟩ =>
  ⟨G, δ, μ, x, _, R, S, q, fun G1 H1 v d μ1 S1 R1 A1 ⟨i, e, q1⟩ => by subst e; cases A1; exact ⟨i, rfl, f G1 H1 (some i) μ1 S1 R1 q1⟩, fx⟩
def cutD (xs : List D) (lo hi : Option Int) : List D := (xs.drop (HT.sIx xs.length 0 lo)).take (HT.sIx xs.length xs.length hi - HT.sIx xs.length 0 lo)
theorem cut_at {K : PySem.W.Frag} {G : Hp} {vs : List V} {ds : List D} (h : AtAll K G vs ds) (lo hi : Option Int) : AtAll K G (cutV vs lo hi) (cutD ds lo hi) := by
  unfold cutV cutD
  rw [h.length]
  exact (h.drop _).take _
def gCut (d : D) (lo hi : Option Int) (μ : Mu) (k : DK) : Prop :=
  match d with
  | .str z => z.length ≤ sizeLine ∧ k (.str (cutS z lo hi)) μ
  | d => ∃ xs, seqOf μ d = some xs ∧ k (.lst (cutD xs lo hi)) μ
def dCut (da : DE) (l h : DO) : DE := fun δ μ x k => da δ μ x fun d μ1 => l δ μ1 x fun lo μ2 => h δ μ2 x fun hi μ3 => gCut d lo hi μ3 k
theorem q_cut {lo hi : Option Expr} {dl dh : DO} {p2 : Pos} (ha : QE X W a da) (hl : QO X W lo dl) (hh : QO X W hi dh) : QE X W (.Subscript a (.Slice lo hi none p2) pos) (dCut da dl dh) :=
  imE (pe_slice (sl_list.or sl_str) ha hl hh) fun σ H Q ⟨G, δ, μ, x, k, R, S, q, f, fx⟩ =>
    ⟨G, δ, μ, x, _, R, S, q, fun G1 H1 v d μ1 S1 R1 A1 q1 =>
      ⟨G1, δ, μ1, x, _, R1, S.up S1, q1, fun G2 H2 lo μ2 S2 R2 q2 =>
        ⟨G2, δ, μ2, x, _, R2, S.up (S1.trans S2), q2, fun G3 H3 hi μ3 S3 R3 q3 => by
          have S13 := S2.trans S3
          have A3 := A1.up S13
          have seqs : (∃ xs, seqOf μ3 d = some xs ∧ k (.lst (cutD xs lo hi)) μ3) → rSlL X.K v lo hi H3 Q ∨ rSlS v lo hi H3 Q := fun ⟨xs, e1, q⟩ => by
            obtain ⟨p, vs, rfl, hl, hA⟩ := seq_at R3 A3 e1
            refine .inl ⟨p, vs, rfl, hl, fun p3 hp => ?_⟩
            have gp := R3.sub.free hp
            exact f (upd G3 p3 (.lst (cutV vs lo hi))) _ (.ref p3) _ μ3 ((S1.trans S13).trans (same_upd gp)) (R3.new hp) (.lst (.of upd_same) ((cut_at hA lo hi).up (same_upd gp))) q
          cases d with
          | str z =>
            cases A1
            obtain ⟨hz, q⟩ := q3
            exact .inr ⟨z, rfl, hz, f G3 H3 _ _ μ3 (S1.trans S13) R3 (.str _) q⟩
          | _ => exact seqs q3, fx.up (S1.trans S2)⟩, fx.up S1⟩, fx⟩
end
end Once

namespace Once
open PySem PySem.Spec PyProof.Rows L2
section
variable {X : Cx} {W : WX} {a b e o : Expr} {es : List Expr} {da db : DE} {t : DA} {pos : Pos}

/-! ### built-ins -/
abbrev GC := List D → Mu → DK → Prop
def cW (X : Cx) (f : Value) : List V → Hp → VK → Prop := fun xs H Q => ∀ (pins : List (Addr × Obj)) (s : Shared) (σ : St) (us : List Value), Inv X pins σ H s → Vals xs us → wpAny (model X.prog X.w) X.A (call f us) (EP X pins σ Q) X.xe s
theorem callW {f : Value} : CallR X f (cW X f) := fun pins s σ H xs us Q I r h => h pins s σ us I r
def CallQ (X : Cx) (f : Value) (g : GC) : Prop := ∀ (G H : Hp) (μ : Mu) (vs : List V) (ds : List D) (k : DK) (Q : VK), Rep X.K G H μ → AtAll X.K G vs ds → g ds μ k → FinV X.K G k Q → cW X f vs H Q
theorem byC {f : Value} {r : List V → Hp → VK → Prop} (h : CallR X f r) {vs : List V} {H : Hp} {Q : VK} (q : r vs H Q) : cW X f vs H Q := fun pins s σ us I rx => h pins s σ H vs us Q I rx q
def dB1 (g : GC) (t : DA) : DE := fun δ μ x k => t δ μ x fun ds μ1 => g ds μ1 k
theorem imC {f : Value} {g : GC} {K : PySem.W.Frag} {mg : Str → Option Value} {n : Nat} {r : List V → Hp → VK → Prop} (h : ∀ (G H : Hp) (μ : Mu) (vs : List V) (ds : List D) (k : DK) (Q : VK), Rep K G H μ → AtAll K G vs ds → g ds μ k → FinV K G k Q → r vs H Q) :
    ∀ σ H Q, liftE K mg W (dB1 g t) σ H Q → tCB r (liftA K mg W n t) σ H Q := fun σ H Q ⟨G, δ, μ, x, k, R, S, q, f, fx⟩ =>
  ⟨G, δ, μ, x, _, R, S, q, fun G1 H1 vs ds μ1 S1 R1 A1 _ q1 => h G1 H1 μ1 vs ds k Q R1 A1 q1 (f.up S1), fx⟩
theorem q_callB {x : Str} {p : Pos} {id : String} {g : GC} (hc : CallQ X (.builtin id) g) (hg : Gl X x) (hm : X.mg x = none) (hv : bootBuiltins x = some (.builtin id)) (ha : QA X W (e :: es) t) (hn : x ≠ "__name__" := by decide) (hdb : (x == ("__debug__" : Str)) = false := by decide)
    (he : starEach (e :: es) X.env = (false, eval e X.env) :: starEach es X.env := by rfl) (hpl : (backTo pos (starEach es X.env)).any (·.1) = false := by rfl) : QE X W (.Call (.Name x p) (e :: es) [] pos) (dB1 g t) :=
  imE (pe_callB callW hg hm hv ha hn hdb he hpl) (imC (f := .builtin id) hc)
theorem q_callTy {x : Str} {p : Pos} {T : String} {g : GC} (hc : CallQ X (.type T) g) (hg : Gl X x) (hm : X.mg x = none) (hv : bootBuiltins x = some (.type T)) (ha : QA X W (e :: es) t) (hn : x ≠ "__name__" := by decide) (hdb : (x == ("__debug__" : Str)) = false := by decide)
    (he : starEach (e :: es) X.env = (false, eval e X.env) :: starEach es X.env := by rfl) (hpl : (backTo pos (starEach es X.env)).any (·.1) = false := by rfl) : QE X W (.Call (.Name x p) (e :: es) [] pos) (dB1 g t) :=
  imE (pe_callTy callW hg hm hv ha hn hdb he hpl) (imC (f := .type T) hc)

/-- len -/
def gLen : GC
  | [.str z] => fun μ k => z.length ≤ sizeLine ∧ k (.int z.length) μ
  | [.tup xs] => fun μ k => k (.int xs.length) μ
  | [d] => fun μ k => ∃ xs, seqOf μ d = some xs ∧ k (.int xs.length) μ
  | _ => fun _ _ => False
theorem len_seq {G H : Hp} {μ : Mu} {v : V} {d : D} {k : DK} {Q : VK} (R : Rep X.K G H μ) (av : At X.K G v d) (f : FinV X.K G k Q) (h : ∃ xs, seqOf μ d = some xs ∧ k (.int xs.length) μ) : cW X (.builtin "len") [v] H Q := by
  obtain ⟨xs, e, q⟩ := h
  obtain ⟨p, vs, rfl, hl, ha⟩ := seq_at R av e
  exact byC call_len ⟨_, _, rfl, .inl ⟨vs, hl, rfl⟩, f G H _ _ μ (Same.refl _) R (by rw [ha.length]; exact .int _) q⟩
theorem cq_len : CallQ X (.builtin "len") gLen := by
  intro G H μ vs ds k Q R A h f
  cases A with
  | nil => exact (show False from h).elim
  | cons av r =>
    cases r with
    | cons _ _ => rename_i d _ _ _ _ _ _; cases d <;> exact (show False from h).elim
    | nil =>
      rename_i v d
      cases d with
      | str z => cases av; exact byC call_len ⟨_, _, rfl, ⟨h.1, rfl⟩, f G H _ _ μ (Same.refl _) R (.int _) h.2⟩
      | tup xs =>
        cases av with
        | tup h1 r1 => exact byC call_len ⟨_, _, rfl, .inr ⟨_, .inl (rdUp R.sub h1), rfl⟩, f G H _ _ μ (Same.refl _) R (by rw [r1.length]; exact .int _) h⟩
      | _ => exact len_seq R av f h
/-- abs, int of an int -/
def gAbs : GC
  | [.int i] => fun μ k => k (.int (if i < 0 then -i else i)) μ
  | _ => fun _ _ => False
theorem cq_abs : CallQ X (.builtin "abs") gAbs := by
  intro G H μ vs ds k Q R A h f
  match ds, A, h with
  | [.int i], .cons (.int _) .nil, h => exact byC call_abs ⟨i, rfl, f G H _ _ μ (Same.refl _) R (.int _) h⟩
def gIntOf : GC
  | [.int i] => fun μ k => k (.int i) μ
  | [.bl b] => fun μ k => k (.int (if b then 1 else 0)) μ
  | _ => fun _ _ => False
theorem cq_int : CallQ X (.type "int") gIntOf := by
  intro G H μ vs ds k Q R A h f
  match ds, A, h with
  | [.int i], .cons (.int _) .nil, h => exact byC call_int1 (.inl ⟨i, rfl, f G H _ _ μ (Same.refl _) R (.int _) h⟩)
  | [.bl i], .cons (.bl _) .nil, h => exact byC call_int1 (.inr ⟨i, rfl, f G H _ _ μ (Same.refl _) R (.int _) h⟩)
/-- list(xs): a list that stays, or one that may change -/
def itemsOf (μ : Mu) : D → Option (List D)
  | .tup xs => some xs
  | d => seqOf μ d
theorem items_at {K : PySem.W.Frag} {G H : Hp} {μ : Mu} {v : V} {d : D} {xs : List D} (R : Rep K G H μ) (h : At K G v d) (e : itemsOf μ d = some xs) : ∃ p vs, v = .ref p ∧ (SqL K H p vs ∨ SqT K H p vs) ∧ AtAll K G vs xs := by
  have seqs : seqOf μ d = some xs → ∃ p vs, v = .ref p ∧ (SqL K H p vs ∨ SqT K H p vs) ∧ AtAll K G vs xs := fun e => by
    obtain ⟨p, vs, e1, hl, ha⟩ := seq_at R h e
    exact ⟨p, vs, e1, .inl hl, ha⟩
  cases d with
  | tup ys =>
    cases h with
    | tup h1 r1 => cases e; exact ⟨_, _, rfl, .inr (.inl (rdUp R.sub h1)), r1⟩
  | _ => exact seqs e
def gList : GC
  | [d] => fun μ k => ∃ xs, itemsOf μ d = some xs ∧ k (.lst xs) μ
  | _ => fun _ _ => False
def gListM : GC
  | [d] => fun μ k => ∃ xs, itemsOf μ d = some xs ∧ ∀ a, μ a = none → k (.mref a) (put μ a (.lst xs))
  | _ => fun _ _ => False
theorem cq_list : CallQ X (.type "list") gList := by
  intro G H μ vs ds k Q R A h f
  match ds, A, h with
  | [d], .cons av .nil, ⟨xs, e, q⟩ =>
    obtain ⟨p, ws, rfl, hs, ha⟩ := items_at R av e
    refine byC call_list_of ⟨p, ws, rfl, hs, fun l hl => ?_⟩
    have gp := R.sub.free hl
    exact f (upd G l (.lst ws)) _ (.ref l) _ μ (same_upd gp) (R.new hl) (.lst (.of upd_same) (ha.up (same_upd gp))) q
theorem cq_listM : CallQ X (.type "list") gListM := by
  intro G H μ vs ds k Q R A h f
  match ds, A, h with
  | [d], .cons av .nil, ⟨xs, e, q⟩ =>
    obtain ⟨p, ws, rfl, hs, ha⟩ := items_at R av e
    refine byC call_list_of ⟨p, ws, rfl, hs, fun l hl => ?_⟩
    exact f G _ (.ref l) _ _ (Same.refl _) (R.lay (R.sub.free hl) ha) (.mref l) (q l (R.fresh hl))
/-- repr -/
def reprD (d : D) : Str := (toPy d).shown
def gRepr : GC
  | [d] => fun μ k => okD d = true ∧ (toPy d).showable = true ∧ deepD d ≤ 800 ∧ (reprD d).length ≤ sizeLine ∧ k (.str (reprD d)) μ
  | _ => fun _ _ => False
theorem noDict_ints : ∀ ns : List Int, PyData.hasDictAll (ns.map PyData.int) = false
  | [] => by simp [PyData.hasDictAll]
  | n :: r => by rw [List.map_cons, PyData.hasDictAll, noDict_ints r]; simp [PyData.hasDict]
mutual
theorem noDict : ∀ d : D, (toPy d).hasDict = false
  | .non => by simp [toPy, PyData.hasDict]
  | .bl b => by simp [toPy, PyData.hasDict]
  | .int i => by simp [toPy, PyData.hasDict]
  | .str x => by simp [toPy, PyData.hasDict]
  | .lst xs => by have := noDicts xs; simpa only [toPy, PyData.hasDict] using this
  | .tup xs => by have := noDicts xs; simpa only [toPy, PyData.hasDict] using this
  | .scr ns => by simp only [toPy, PyData.hasDict, noDict_ints]
  | .mref _ => by simp [toPy, PyData.hasDict]
  | .exc _ _ _ _ _ => by simp [toPy, PyData.hasDict]
theorem noDicts : ∀ ds : List D, PyData.hasDictAll (toPys ds) = false
  | [] => by simp [toPys, PyData.hasDictAll]
  | x :: xs => by have h1 := noDict x; have h2 := noDicts xs; simp only [toPys, PyData.hasDictAll, h1, h2, Bool.or_self]
end
theorem repr_none {prog : Program} {w : World} {A : Around} {E : Value → Shared → Prop} {s : Shared} {Q : Value → Shared → Prop} (h : Q (.str "None" s.toks) { s with toks := s.toks + 1 }) : wpAny (model prog w) A (call (.builtin "repr") [.none]) Q E s :=
  call_repr_gives (typeIs_none s) F.slot_NoneType_repr F.entry_NoneType_repr (F.args_NoneType_repr_1 _) gives_none_repr h
theorem cq_repr (hu : Un0 X.A) : CallQ X (.builtin "repr") gRepr := by
  intro G H μ vs ds k Q R A h f
  match ds, vs, A, h with
  | [d], [v], .cons av .nil, ⟨o, sh, dp, hz, q⟩ =>
    intro pins s σ us I r
    obtain ⟨u, rfl, ru⟩ := vals1 r
    obtain ⟨as, rd⟩ := Dp.reads I _ v u (dp_of R.sub av o) ru
    have fin : ∀ (h' : Heap) (tk : Nat) (tok : Tok), (∀ b o, s.heap.get? b = some o → h'.get? b = some o) → EP X pins σ Q (.str (reprD d) tok) { s with heap := h', toks := tk } := fun h' tk tok hk =>
      ⟨.str (reprD d), H, I.kept (t' := tk) hk, ⟨_, rfl⟩, f G H _ _ μ (Same.refl _) R (.str _) q⟩
    have refs : ∀ a, u = .ref a → wpAny (model X.prog X.w) X.A (call (.builtin "repr") [u]) (EP X pins σ Q) X.xe s := fun a e => by
      subst e
      exact repr_of_reads' rd sh (fun z => by rw [noDict d] at z; cases z) hu.2 (by have h1 := deep_py d; have h2 := hu.1; omega) (fun _ _ e => e) (fun h' u tk hk => fin h' tk u hk) hz
    have e0 : ∀ tk, ({ s with heap := s.heap, toks := tk } : Shared) = { s with toks := tk } := fun _ => rfl
    cases av with
    | non => obtain rfl : u = Value.none := ru; exact repr_none (fin s.heap (s.toks + 1) s.toks fun _ _ e => e)
    | bl b => obtain rfl : u = Value.bool b := ru; exact PySem.P.repr_of_bool (fin s.heap (s.toks + 1) s.toks fun _ _ e => e)
    | int i =>
      obtain ⟨t, rfl⟩ := ru
      have hi : i.natAbs.log2 < 1920 := by simpa [toPy, PyData.showable] using sh
      exact PySem.P.repr_of_int hi (fin s.heap (s.toks + 1) s.toks fun _ _ e => e)
    | str x => obtain ⟨t, rfl⟩ := ru; exact PySem.P.repr_of_str (fin s.heap (s.toks + 1) s.toks fun _ _ e => e) hz
    | lst _ _ => exact refs _ ru
    | tup _ _ => exact refs _ ru
    | scr _ => exact refs _ ru
    | mref a => exact refs _ ru
    | exc0 a c => exact refs _ ru
    | exc _ _ _ => exact refs _ ru

/-! ### isinstance -/
def tyD : D → String
  | .non => "NoneType" | .bl _ => "bool" | .int _ => "int" | .str _ => "str"
  | .lst _ => "list" | .scr _ => "list" | .mref _ => "list" | .tup _ => "tuple" | .exc _ _ _ _ _ => "?"
theorem tyx_sq {K : PySem.W.Frag} {H : Hp} {a : Addr} {vs : List V} (h : SqL K H a vs) : TyX K H (.ref a) (.type "list") := by
  rcases h with (h | ⟨o, h⟩) | ⟨o, its, n, hk, hc, _⟩
  · exact .base (.lst h)
  · exact .base (.frz h)
  · exact .kList hk hc
theorem tyx_of {K : PySem.W.Frag} {G H : Hp} {μ : Mu} {v : V} {d : D} (R : Rep K G H μ) (h : At K G v d) (ne : ∀ a c dd ns vs, d ≠ .exc a c dd ns vs) (nm : ∀ a, d = .mref a → ∃ xs, μ a = some (.lst xs)) : TyX K H v (.type (tyD d)) := by
  cases h with
  | non => exact .base .non
  | bl b => exact .base (.bl b)
  | int i => exact .base (.int i)
  | str x => exact .base (.str x)
  | lst h r => exact tyx_sq (.inl (rdUp R.sub h))
  | scr h => exact tyx_sq (R.sub.seq h)
  | mref a =>
    obtain ⟨xs, e⟩ := nm a rfl
    obtain ⟨_, vs, e1, _⟩ := R.mu a _ e
    exact .base (.lst e1)
  | tup h r =>
    rcases rdUp R.sub h with h | ⟨o, h⟩
    · exact .base (.tup h)
    · exact .fTuple h
  | exc0 a c => exact absurd rfl (ne _ _ _ _ _)
  | exc _ _ _ => exact absurd rfl (ne _ _ _ _ _)
/-- what isinstance may be asked of -/
def askD (μ : Mu) : D → Prop
  | .exc _ _ _ _ _ => False
  | .mref a => ∃ xs, μ a = some (.lst xs)
  | _ => True
def dIsi (p : D → Bool) (da : DE) : DE := fun δ μ x k => da δ μ x fun d μ1 => askD μ1 d ∧ k (.bl (p d)) μ1
def isTup : D → Bool | .tup _ => true | _ => false
def isStr : D → Bool | .str _ => true | _ => false
def isInt : D → Bool | .int _ => true | .bl _ => true | _ => false
def isBool : D → Bool | .bl _ => true | _ => false
def isList : D → Bool | .lst _ => true | .scr _ => true | .mref _ => true | _ => false
def AnsT (T : String) (p : D → Bool) : Prop := ∀ d, (∀ a c dd ns vs, d ≠ .exc a c dd ns vs) → kitB (tyD d) T = some (p d)
theorem ans_tup : AnsT "tuple" isTup := fun d h => by cases d <;> first | exact absurd rfl (h _ _ _ _ _) | (clear h; dsimp only [tyD, isTup]; decide +kernel)
theorem ans_str : AnsT "str" isStr := fun d h => by cases d <;> first | exact absurd rfl (h _ _ _ _ _) | (clear h; dsimp only [tyD, isStr]; decide +kernel)
theorem ans_int : AnsT "int" isInt := fun d h => by cases d <;> first | exact absurd rfl (h _ _ _ _ _) | (clear h; dsimp only [tyD, isInt]; decide +kernel)
theorem ans_bool : AnsT "bool" isBool := fun d h => by cases d <;> first | exact absurd rfl (h _ _ _ _ _) | (clear h; dsimp only [tyD, isBool]; decide +kernel)
theorem ans_list : AnsT "list" isList := fun d h => by cases d <;> first | exact absurd rfl (h _ _ _ _ _) | (clear h; dsimp only [tyD, isList]; decide +kernel)
theorem q_isi {T : String} {x : Str} {p1 p2 : Pos} {p : D → Bool} (hT : AnsT T p) (hg : Gl X "isinstance") (hm : X.mg "isinstance" = none) (hgT : Gl X x) (hmT : X.mg x = none) (hv : bootBuiltins x = some (.type T)) (ha : QE X W a da)
    (hn : x ≠ "__name__" := by decide) (hdb : (x == ("__debug__" : Str)) = false := by decide)
    (he : starEach [a, .Name x p2] X.env = (false, eval a X.env) :: starEach [.Name x p2] X.env := by rfl) (he2 : starEach [.Name x p2] X.env = (false, eval (.Name x p2) X.env) :: starEach [] X.env := by rfl) (hpl : (backTo pos (starEach [.Name x p2] X.env)).any (·.1) = false := by rfl) :
    QE X W (.Call (.Name "isinstance" p1) [a, .Name x p2] [] pos) (dIsi p da) := by
  refine imE (pe_callB call_isi hg hm (by decide +kernel) (pa_cons ha (pa_cons (pe_bltn (v := .ty T) hgT hmT hv rfl hn hdb) pa_nil he2) he) (by decide) (by decide) he hpl) fun σ H Q ⟨G, δ, μ, x, k, R, S, q, f, fx⟩ => ⟨G, δ, μ, x, _, R, S, q, fun G1 H1 v d μ1 S1 R1 A1 ⟨ask, q1⟩ => ?_, fx⟩
  have ne : ∀ a c dd ns vs, d ≠ .exc a c dd ns vs := fun _ _ _ _ _ e => by subst e; exact ask
  exact ⟨v, .ty T, _, _, p d, rfl, .ty T, tyx_of R1 A1 ne (fun a e => by subst e; exact ask), kit_ty (hT d ne), f G1 H1 _ _ μ1 S1 R1 (.bl _) q1⟩
end
end Once

namespace Once
open PySem PySem.Spec PyProof.Rows L2
section
variable {X : Cx} {W : WX} {a b e o tg : Expr} {es : List Expr} {da db : DE} {t : DA} {pos : Pos} {st : Stmt} {rest : List Stmt} {d1 d2 : DS}

/-! ### blocks -/
def dNext : DS := fun E δ μ => E.nx δ μ
def dSeq (p q : DS) : DS := fun E δ μ => p { E with nx := q E } δ μ
def dRet (da : DE) : DS := fun E δ μ => da δ μ E.ex E.rt
def dRetN : DS := fun E _ μ => E.rt .non μ
def dDrop (da : DE) : DS := fun E δ μ => da δ μ E.ex fun _ μ1 => E.nx δ μ1
def dIf (p : DT) (s1 s2 : DS) : DS := fun E δ μ => p δ μ E.ex fun b μ1 => if b = true then s1 E δ μ1 else s2 E δ μ1
def dBrk : DS := fun E δ μ => E.bk δ μ
def dCnt : DS := fun E δ μ => E.ct δ μ
theorem qss_nil : QSs X W [] dNext := imSs pss_nil fun T σ H ⟨G, δ, μ, E, R, S, q, f⟩ => f.nx G H σ δ μ (Same.refl _) R S q
theorem qss_cons (h1 : QS X W st d1) (h2 : QSs X W rest d2) : QSs X W (st :: rest) (dSeq d1 d2) := imSs (pss_cons h1 h2) fun T σ H ⟨G, δ, μ, E, R, S, q, f⟩ =>
  ⟨G, δ, μ, { E with nx := d2 E }, R, S, q, ⟨fun G1 H1 σ1 δ1 μ1 S1 R1 Z1 q1 => ⟨G1, δ1, μ1, E, R1, Z1, q1, f.up S1⟩, f.rt, f.bk, f.ct, f.ex⟩⟩
theorem qss_one (h1 : QS X W st d1) : QSs X W [st] d1 := pss_one h1
theorem qs_ret (h : QE X W e da) : QS X W (.Return (some e) pos) (dRet da) := imS (ps_ret h) fun T σ H ⟨G, δ, μ, E, R, S, q, f⟩ => ⟨G, δ, μ, E.ex, E.rt, R, S, q, f.rt, f.ex⟩
theorem qs_retN : QS X W (.Return none pos) dRetN := imS ps_retN fun T σ H ⟨G, δ, μ, E, R, S, q, f⟩ => f.rt G H .non .non μ (Same.refl _) R .non q
theorem qs_expr (h : QE X W e da) (hs : swapsWith e none pos.line X.env = pure false := by rfl) : QS X W (.Expr e pos) (dDrop da) := imS (ps_expr h hs) fun T σ H ⟨G, δ, μ, E, R, S, q, f⟩ =>
  ⟨G, δ, μ, E.ex, _, R, S, q, fun G1 H1 v r μ1 S1 R1 A1 q1 => f.nx G1 H1 σ δ μ1 S1 R1 (S.up S1) q1, f.ex⟩
theorem qs_doc {x j p} : QS X W (.Expr (.Constant (.str x) j p) pos) dNext := imS ps_doc fun T σ H ⟨G, δ, μ, E, R, S, q, f⟩ => f.nx G H σ δ μ (Same.refl _) R S q
theorem qs_if {c : Expr} {sa sb : List Stmt} {dc : DT} (hc : QT X W c dc) (ha : QSs X W sa d1) (hb : QSs X W sb d2) : QS X W (.If c sa sb pos) (dIf dc d1 d2) := imS (ps_if hc ha hb) fun T σ H ⟨G, δ, μ, E, R, S, q, f⟩ =>
  ⟨G, δ, μ, E.ex, _, R, S, q, fun G1 H1 b μ1 S1 R1 q1 => by
    cases b with
    | true => exact iteT ⟨G1, δ, μ1, E, R1, S.up S1, by simpa using q1, f.up S1⟩
    | false => exact iteF ⟨G1, δ, μ1, E, R1, S.up S1, by simpa using q1, f.up S1⟩, f.ex⟩
theorem qs_break : QS X W (.Break pos) dBrk := imS ps_break fun T σ H ⟨G, δ, μ, E, R, S, q, f⟩ => f.bk G H σ δ μ (Same.refl _) R S q
theorem qs_cont : QS X W (.Continue pos) dCnt := imS ps_continue fun T σ H ⟨G, δ, μ, E, R, S, q, f⟩ => f.ct G H σ δ μ (Same.refl _) R S q
theorem qs_pass : QS X W (.Pass pos) dNext := imS ps_pass fun T σ H ⟨G, δ, μ, E, R, S, q, f⟩ => f.nx G H σ δ μ (Same.refl _) R S q

/-! ### targets -/
abbrev DG := D → Ds → Mu → (Ds → Mu → Prop) → Prop
abbrev DGs := List D → Ds → Mu → (Ds → Mu → Prop) → Prop
def liftG (K : PySem.W.Frag) (g : DG) : TG := fun v σ H Q => ∃ (G : Hp) (δ : Ds) (μ : Mu) (d : D) (k : Ds → Mu → Prop), Rep K G H μ ∧ SlotsAt K G σ δ ∧ At K G v d ∧ g d δ μ k ∧ FinN K G k Q
def liftGs (K : PySem.W.Frag) (g : DGs) : TGs := fun vs σ H Q => ∃ (G : Hp) (δ : Ds) (μ : Mu) (ds : List D) (k : Ds → Mu → Prop), Rep K G H μ ∧ SlotsAt K G σ δ ∧ AtAll K G vs ds ∧ g ds δ μ k ∧ FinN K G k Q
abbrev QG (X : Cx) (e : Expr) (g : DG) : Prop := PG X e (liftG X.K g)
abbrev QGs (X : Cx) (es : List Expr) (g : DGs) : Prop := PGs X es (liftGs X.K g)
theorem imG {e : Expr} {t t' : TG} (h : PG X e t) (i : ∀ v σ H Q, t' v σ H Q → t v σ H Q) : PG X e t' := ⟨fun pins s σ H v u Q I r q => h.run pins s σ H v u Q I r (i v σ H Q q)⟩
theorem imGs {es : List Expr} {t t' : TGs} (h : PGs X es t) (i : ∀ v σ H Q, t' v σ H Q → t v σ H Q) : PGs X es t' := ⟨fun pins s σ H v u Q I r q => h.run pins s σ H v u Q I r (i v σ H Q q)⟩
def gdName (i : Nat) : DG := fun d δ μ k => k (δ.set i (some d)) μ
def gdNil : DGs := fun ds δ μ k => ds = [] ∧ k δ μ
def gdCons (g : DG) (r : DGs) : DGs := fun ds δ μ k => ∃ d dr, ds = d :: dr ∧ g d δ μ fun δ1 μ1 => r dr δ1 μ1 k
def gdTup (n : Nat) (g : DGs) : DG := fun d δ μ k => ∃ xs, d = .tup xs ∧ xs.length = n ∧ g xs δ μ k
theorem qg_name {i : Nat} {x : Str} (hN : X.N.Nodup) (hi : X.N[i]? = some x) (hx : Loc X.env.scope x) (hf : X.fn x = true ∨ X.env.scope.names.lookup x = some .local := by first | exact .inl rfl | exact .inr rfl | assumption) : QG X (.Name x pos) (gdName i) :=
  imG (pg_name hN hi hx hf) fun v σ H Q ⟨G, δ, μ, d, k, R, S, A, q, f⟩ => f G H _ _ μ (Same.refl _) R (S.set A) q
theorem qgs_nil : QGs X [] gdNil := imGs pgs_nil fun vs σ H Q ⟨G, δ, μ, ds, k, R, S, A, ⟨e, q⟩, f⟩ => by
  subst e
  cases A
  exact ⟨rfl, f G H σ δ μ (Same.refl _) R S q⟩
theorem qgs_cons {g : DG} {r : DGs} (h1 : QG X e g) (h2 : QGs X es r) (hs : (assignEach (e :: es) X.env).map (·.2) = assign e X.env :: (assignEach es X.env).map (·.2) := by rfl) : QGs X (e :: es) (gdCons g r) :=
  imGs (pgs_cons h1 h2 hs) fun vs σ H Q ⟨G, δ, μ, ds, k, R, S, A, ⟨d, dr, e, q⟩, f⟩ => by
    subst e
    cases A with
    | cons A1 A2 => exact ⟨_, _, rfl, G, δ, μ, d, _, R, S, A1, q, fun G1 H1 σ1 δ1 μ1 S1 R1 Z1 q1 => ⟨G1, δ1, μ1, dr, k, R1, Z1, A2.up S1, q1, f.up S1⟩⟩
theorem qg_tup {j n : Nat} {g : DGs} (hc : X.calm = true) (h : QGs X es g) (hn : (assignEach es X.env).length = n := by rfl) (hst : (assignEach es X.env).findIdx? (·.1) = none := by rfl) : QG X (.Tuple es j pos) (gdTup n g) :=
  imG (pg_tup hc h hn hst) fun v σ H Q ⟨G, δ, μ, d, k, R, S, A, ⟨xs, e, hl, q⟩, f⟩ => by
    subst e
    cases A with
    | tup h1 r1 => exact ⟨_, _, rfl, .inl (rdUp R.sub h1), by rw [r1.length]; exact hl, G, δ, μ, xs, k, R, S, r1, q, f⟩
/-- o[i] = .., a list that may change -/
def gdSub (dp di : DE) (x : DX) : DG := fun d δ μ k => dp δ μ x fun p μ1 => di δ μ1 x fun i μ2 => ∃ a xs j n, p = .mref a ∧ i = .int j ∧ μ2 a = some (.lst xs) ∧ ixN xs.length j = some n ∧ k δ (put μ2 a (.lst (xs.set n d)))
theorem qs_asg {g : DG} (he : QE X W e da) (hg : QG X tg g) (hs : swapsWithSole [tg] e pos.line X.env = pure false := by rfl) (hw : swappedStores [tg] e X.env = pure none := by rfl)
    (h1 : (assignEach [tg] X.env).map (·.2) = [assign tg X.env] := by rfl) : QS X W (.Assign [tg] e pos) (fun E δ μ => da δ μ E.ex fun d μ1 => g d δ μ1 E.nx) :=
  imS (ps_asg he hg hs hw h1) fun T σ H ⟨G, δ, μ, E, R, S, q, f⟩ => ⟨G, δ, μ, E.ex, _, R, S, q, fun G1 H1 v d μ1 S1 R1 A1 q1 => ⟨G1, δ, μ1, d, _, R1, S.up S1, A1, q1, f.nx.up S1⟩, f.ex⟩
def dSet (i : Nat) (da : DE) : DS := fun E δ μ => da δ μ E.ex fun d μ1 => E.nx (δ.set i (some d)) μ1
theorem qs_set {i : Nat} {x : Str} {p' : Pos} (hN : X.N.Nodup) (hi : X.N[i]? = some x) (hx : Loc X.env.scope x) (he : QE X W e da) (hs : swapsWith e (some (.Name x p')) pos.line X.env = pure false := by rfl) (hf : X.fn x = true ∨ X.env.scope.names.lookup x = some .local := by first | exact .inl rfl | exact .inr rfl | assumption) :
    QS X W (.Assign [.Name x p'] e pos) (dSet i da) :=
  imS (ps_set hN hi hx he hs hf) fun T σ H ⟨G, δ, μ, E, R, S, q, f⟩ => ⟨G, δ, μ, E.ex, _, R, S, q, fun G1 H1 v d μ1 S1 R1 A1 q1 => f.nx G1 H1 _ _ μ1 S1 R1 ((S.up S1).set A1) q1, f.ex⟩
/-- a tuple taken apart into names -/
def dUnp (n : Nat) (da : DE) (g : DGs) : DS := fun E δ μ => da δ μ E.ex fun d μ1 => gdTup n g d δ μ1 E.nx
theorem qs_unp {g : DGs} {j n : Nat} {p' : Pos} (hc : X.calm = true) (he : QE X W e da) (hg : QGs X es g) (hn : (assignEach es X.env).length = n := by rfl) (hst : (assignEach es X.env).findIdx? (·.1) = none := by rfl)
    (hs : swapsWithSole [.Tuple es j p'] e pos.line X.env = pure false := by rfl) (hw : swappedStores [.Tuple es j p'] e X.env = pure none := by rfl)
    (h1 : (assignEach [.Tuple es j p'] X.env).map (·.2) = [assign (.Tuple es j p') X.env] := by rfl) : QS X W (.Assign [.Tuple es j p'] e pos) (dUnp n da g) := qs_asg he (qg_tup hc hg hn hst) hs hw h1
/-- name op= e -/
def dAug (i : Nat) (g : G2) (da : DE) : DS := fun E δ μ => ∃ y, δ[i]? = some (some y) ∧ da δ μ E.ex fun d μ1 => g y d μ1 fun z μ2 => E.nx (δ.set i (some z)) μ2
def IpQ (X : Cx) (op : Operator) (g : G2) : Prop := ∀ (G H : Hp) (μ : Mu) (x y : V) (d e : D) (k : DK) (Q : VK), Rep X.K G H μ → At X.K G x d → At X.K G y e → g d e μ k → FinV X.K G k Q → rW X (inplaceOp op) x y H Q
theorem ipW {op : Operator} : PIp X op (rW X (inplaceOp op)) := fun pins s σ H x y v u Q I rx ry h => h pins s σ v u I rx ry
theorem qs_aug {i : Nat} {x : Str} {p' : Pos} {op : Operator} {g : G2} (hN : X.N.Nodup) (hi : X.N[i]? = some x) (hx : Loc X.env.scope x) (he : QE X W e da) (ho : IpQ X op g) (hf : X.fn x = true ∨ X.env.scope.names.lookup x = some .local := by first | exact .inl rfl | exact .inr rfl | assumption) :
    QS X W (.AugAssign (.Name x p') op e pos) (dAug i g da) :=
  imS (ps_aug hN hi hx he ipW hf) fun T σ H ⟨G, δ, μ, E, R, S, ⟨y, ey, q⟩, f⟩ => by
    obtain ⟨v, e1, A⟩ := S.2 i y ey
    exact ⟨v, e1, G, δ, μ, E.ex, _, R, S, q, fun G1 H1 u d μ1 S1 R1 A1 q1 => ho G1 H1 μ1 v u y d _ _ R1 (A.up S1) A1 q1 fun G2 H2 w z μ2 S2 R2 A2 q2 => f.nx G2 H2 _ _ μ2 (S1.trans S2) R2 ((S.up (S1.trans S2)).set A2) q2, f.ex⟩
theorem ip_int0 {op : Operator} {g : Int → Int → D} {gv : Int → Int → V} (h : OpR X (inplaceOp op) (rI0 gv)) (hg : ∀ G i j, At X.K G (gv i j) (g i j)) : IpQ X op (gInt0 g) := by
  intro G H μ x y d e k Q R ax ay q f
  cases d with
  | int i =>
    cases e with
    | int j => cases ax; cases ay; exact byR h ⟨i, j, rfl, rfl, f G H _ _ μ (Same.refl _) R (hg G i j) q⟩
    | _ => exact q.elim
  | _ => exact (show False from q).elim
theorem ipq_add : IpQ X .Add (gInt0 fun i j => .int (i + j)) := ip_int0 iop_add fun _ _ _ => .int _
theorem ipq_sub : IpQ X .Sub (gInt0 fun i j => .int (i - j)) := ip_int0 iop_sub fun _ _ _ => .int _
/-- o[i] = e -/
def dSetAt (dv dp di : DE) : DS := fun E δ μ => dv δ μ E.ex fun d μ1 => dp δ μ1 E.ex fun p μ2 => di δ μ2 E.ex fun i μ3 => ∃ a xs j n, p = .mref a ∧ i = .int j ∧ μ3 a = some (.lst xs) ∧ ixN xs.length j = some n ∧ E.nx δ (put μ3 a (.lst (xs.set n d)))
theorem set_at {K : PySem.W.Frag} {G H : Hp} {μ : Mu} {p i v : V} {dp di d : D} {a : Addr} {xs : List D} {j : Int} {n : Nat} {Q : Hp → Prop} (R : Rep K G H μ) (Ap : At K G p dp) (Ai : At K G i di) (Av : At K G v d) (e1 : dp = .mref a) (e2 : di = .int j) (e3 : μ a = some (.lst xs)) (e4 : ixN xs.length j = some n)
    (f : ∀ H', Rep K G H' (put μ a (.lst (xs.set n d))) → Q H') : rSetL p i v H Q := by
  subst e1 e2
  cases Ap
  cases Ai
  obtain ⟨ga, vs, h1, h2⟩ := R.mu a _ e3
  exact ⟨a, vs, j, n, rfl, rfl, h1, by rw [h2.length]; exact e4, f _ (R.lay ga (h2.set n Av))⟩
theorem qs_setAt {i v : Expr} {di dv : DE} {p' : Pos} (hv : QE X W v dv) (ho : QE X W o da) (hi : QE X W i di)
    (ha : ∀ v, assign (.Subscript o i p') X.env v = (do
      let ov ← holding [v] (eval o X.env)
      let iv ← holding [v, ov] (eval i X.env)
      standAt p'
      holding [v, ov, iv] (setItem ov iv v)
      release [v, ov, iv] []) := by intro _; rfl)
    (hs : swapsWithSole [.Subscript o i p'] v pos.line X.env = pure false := by rfl) (hw : swappedStores [.Subscript o i p'] v X.env = pure none := by rfl)
    (h1 : (assignEach [.Subscript o i p'] X.env).map (·.2) = [assign (.Subscript o i p') X.env] := by rfl) : QS X W (.Assign [.Subscript o i p'] v pos) (dSetAt dv da di) :=
  imS (ps_asg hv (pg_sub ho hi set_list ha) hs hw h1) fun T σ H ⟨G, δ, μ, E, R, S, q, f⟩ => ⟨G, δ, μ, E.ex, _, R, S, q, fun G1 H1 w d μ1 S1 R1 A1 q1 =>
    ⟨G1, δ, μ1, E.ex, _, R1, S.up S1, q1, fun G2 H2 p dp μ2 S2 R2 A2 q2 =>
      ⟨G2, δ, μ2, E.ex, _, R2, S.up (S1.trans S2), q2, fun G3 H3 i di μ3 S3 R3 A3 ⟨a, xs, j, n, e1, e2, e3, e4, q3⟩ =>
        set_at R3 (A2.up S3) A3 (A1.up (S2.trans S3)) e1 e2 e3 e4 fun H4 R4 => f.nx G3 H4 σ δ _ ((S1.trans S2).trans S3) R4 (S.up ((S1.trans S2).trans S3)) q3, f.ex.up (S1.trans S2)⟩, f.ex.up S1⟩, f.ex⟩
/-- o[i] op= e, a list's item at a place told by a number that is not negative -/
def rGetL (K : PySem.W.Frag) : V → V → Hp → VK → Prop := fun x y H Q => ∃ p xs i v, x = .ref p ∧ y = .int i ∧ SqL K H p xs ∧ 0 ≤ i ∧ i < 2 ^ 62 ∧ xs[i.toNat]? = some v ∧ Q v H
theorem get_list : PGet X (rGetL X.K) := by
  intro pins s σ H o i ov iv Q I ro ri h
  obtain ⟨p, xs, j, v, rfl, rfl, hs, h0, h1, e, q⟩ := h
  cases ro
  obtain ⟨t, rfl⟩ := ri
  obtain ⟨its, r, pl, hz⟩ := I.list hs
  obtain ⟨w, ew, rw'⟩ := r.get e
  exact wpAny_getItem_list pl.isList h0 (by omega) (by simpa using ew) ⟨v, H, I, rw', q⟩
def dAugAt (g : G2) (dp di dv : DE) : DS := fun E δ μ => dp δ μ E.ex fun p μ1 => di δ μ1 E.ex fun i μ2 => ∃ a xs n y, p = .mref a ∧ i = .int (n : Nat) ∧ μ2 a = some (.lst xs) ∧ n < 1000000 ∧ xs[n]? = some y ∧
  dv δ μ2 E.ex fun d μ3 => g y d μ3 fun z μ4 => ∃ ys, μ4 a = some (.lst ys) ∧ n < ys.length ∧ E.nx δ (put μ4 a (.lst (ys.set n z)))
theorem qs_augAt {i v : Expr} {di dv : DE} {p' : Pos} {op : Operator} {g : G2} (ho : QE X W o da) (hi : QE X W i di) (hv : QE X W v dv) (hg : IpQ X op g)
    (ha : ∀ ov iv new, augStore i ov iv new = (do holding [new, ov, iv] (setItem ov iv new); release [new, ov, iv] []; pure .next) := by intros; rfl) : QS X W (.AugAssign (.Subscript o i p') op v pos) (dAugAt g da di dv) :=
  imS (ps_augS ho hi get_list hv ipW set_list ha) fun T σ H ⟨G, δ, μ, E, R, S, q, f⟩ => ⟨G, δ, μ, E.ex, _, R, S, q, fun G1 H1 p dp μ1 S1 R1 A1 q1 =>
    ⟨G1, δ, μ1, E.ex, _, R1, S.up S1, q1, fun G2 H2 i di μ2 S2 R2 A2 ⟨a, xs, n, y, e1, e2, e3, hn, e4, q2⟩ => by
      subst e1 e2
      cases A1
      cases A2
      obtain ⟨ga, vs, h1, h2⟩ := R2.mu a _ e3
      obtain ⟨w, e5, Ay⟩ := h2.get e4
      refine ⟨a, vs, (n : Int), w, rfl, rfl, .of h1, by omega, by omega, by simpa using e5, G2, δ, μ2, E.ex, _, R2, S.up (S1.trans S2), q2, fun G3 H3 u d μ3 S3 R3 A3 q3 => ?_, f.ex.up (S1.trans S2)⟩
      refine hg G3 H3 μ3 w u y d _ _ R3 (Ay.up S3) A3 q3 fun G4 H4 z dz μ4 S4 R4 A4 ⟨ys, e6, hl, q4⟩ => ?_
      have S14 := (S1.trans S2).trans (S3.trans S4)
      exact set_at R4 (.mref a) (.int (n : Int)) A4 rfl rfl e6 (by unfold ixN; rw [if_pos (by omega), if_pos (by omega)]; simp) fun H5 R5 => f.nx G4 H5 σ δ _ S14 R5 (S.up S14) q4, f.ex.up S1⟩, f.ex⟩

/-! ### methods of lists that may change, join -/
def dApp (dp dv : DE) : DE := fun δ μ x k => dp δ μ x fun p μ1 => ∃ a ys, p = .mref a ∧ μ1 a = some (.lst ys) ∧ dv δ μ1 x fun d μ2 => ∃ xs, μ2 a = some (.lst xs) ∧ xs.length < sizeLine ∧ k .non (put μ2 a (.lst (xs ++ [d])))
theorem mt_of {id : String} {r : V → List V → Hp → VK → Prop} (h : MtM X id r) : MtR X id r := h
theorem q_app {v : Expr} {dv : DE} {apos : Pos} (ho : QE X W o da) (hv : QE X W v dv) (hb : attributeBase o "append" X.env (eval o X.env) = eval o X.env := by rfl)
    (hfew : ((backTo pos (starEach [v] X.env)).all (fun x => !x.1) && (backToKw pos (keywordEach [] X.env)).all (fun x => x.1.isSome) && decide (([v] : List Expr).length + ([] : List Keyword).length + (if ([] : List Keyword).isEmpty then 0 else 1) < 30)) = true := by rfl)
    (hline : (apos.endLine == pos.line) = true := by rfl) (hs : starEach [v] X.env = (false, eval v X.env) :: starEach [] X.env := by rfl) (hp : (backTo pos (starEach [] X.env)).any (·.1) = false := by rfl) :
    QE X W (.Call (.Attribute o "append" apos) [v] [] pos) (dApp da dv) :=
  imE (pe_bm PySem.F.plainAttrs_list PySem.F.slot_list_append PySem.F.type_list_append mt_append ho (pa_cons hv pa_nil hs) hb hfew hline hs hp) fun σ H Q ⟨G, δ, μ, x, k, R, S, q, f, fx⟩ => ⟨G, δ, μ, x, _, R, S, q, fun G1 H1 p dp μ1 S1 R1 A1 ⟨a, ys, e1, e2, q1⟩ => by
    subst e1
    cases A1
    obtain ⟨ga, vs, h1, h2⟩ := R1.mu a _ e2
    refine ⟨.inl ⟨rfl, vs, .of h1⟩, G1, δ, μ1, x, _, R1, S.up S1, q1, fun G2 H2 u d μ2 S2 R2 A2 ⟨xs, e3, hl, q2⟩ => ?_, fx.up S1⟩
    obtain ⟨ga2, vs2, h3, h4⟩ := R2.mu a _ e3
    exact ⟨a, vs2, u, rfl, rfl, h3, by rw [h4.length]; exact hl, f G2 _ .non .non _ (S1.trans S2) (R2.lay ga2 (h4.append (.cons A2 .nil))) .non q2⟩, fx⟩
def dPop (dp : DE) : DE := fun δ μ x k => dp δ μ x fun p μ1 => ∃ a xs y, p = .mref a ∧ μ1 a = some (.lst xs) ∧ xs[xs.length - 1]? = some y ∧ k y (put μ1 a (.lst xs.dropLast))
theorem q_pop {apos : Pos} (ho : QE X W o da) (hb : attributeBase o "pop" X.env (eval o X.env) = eval o X.env := by rfl) (hline : (apos.endLine == pos.line) = true := by rfl) : QE X W (.Call (.Attribute o "pop" apos) [] [] pos) (dPop da) :=
  imE (pe_bm0 PySem.F.plainAttrs_list PySem.F.slot_list_pop PySem.F.type_list_pop mt_pop ho hb hline) fun σ H Q ⟨G, δ, μ, x, k, R, S, q, f, fx⟩ => ⟨G, δ, μ, x, _, R, S, q, fun G1 H1 p dp μ1 S1 R1 A1 ⟨a, xs, y, e1, e2, e3, q1⟩ => by
    subst e1
    cases A1
    obtain ⟨ga, vs, h1, h2⟩ := R1.mu a _ e2
    obtain ⟨w, e4, Ay⟩ := h2.get e3
    exact ⟨.inl ⟨rfl, vs, .of h1⟩, a, vs, w, rfl, rfl, h1, by rw [h2.length]; exact e4, f G1 _ w y _ S1 (R1.lay ga h2.dropLast) Ay q1⟩, fx⟩
def strsOf : List D → Option (List Str)
  | [] => some []
  | .str z :: r => (strsOf r).map (z :: ·)
  | _ :: _ => none
theorem strs_at {K : PySem.W.Frag} {G : Hp} : ∀ {ds : List D} {vs : List V} {ys : List Str}, AtAll K G vs ds → strsOf ds = some ys → vs = ys.map V.str
  | [], _, _, A, e => by cases A; cases e; rfl
  | .str z :: r, _, ys, A, e => by
    cases A with
    | cons a1 a2 =>
      cases a1
      cases q : strsOf r with
      | none => simp [strsOf, q] at e
      | some zs =>
        simp only [strsOf, q, Option.map_some, Option.some.injEq] at e
        subst e
        rw [strs_at a2 q]
        rfl
  | .non :: _, _, _, _, e => by cases e
  | .bl _ :: _, _, _, _, e => by cases e
  | .int _ :: _, _, _, _, e => by cases e
  | .lst _ :: _, _, _, _, e => by cases e
  | .tup _ :: _, _, _, _, e => by cases e
  | .scr _ :: _, _, _, _, e => by cases e
  | .mref _ :: _, _, _, _, e => by cases e
  | .exc _ _ _ _ _ :: _, _, _, _, e => by cases e
def dJoin (ds dl : DE) : DE := fun δ μ x k => ds δ μ x fun d μ1 => ∃ z, d = .str z ∧ dl δ μ1 x fun l μ2 => ∃ xs ys, seqOf μ2 l = some xs ∧ strsOf xs = some ys ∧ (ys.map (·.length)).sum + ys.length * z.length ≤ 16777216 ∧ k (.str (Txt.join z ys)) μ2
theorem q_join {apos : Pos} (ho : QE X W o da) (he : QE X W e db) (hs : starEach [e] X.env = [(false, eval e X.env)] := by rfl) (hb : attributeBase o "join" X.env (eval o X.env) = eval o X.env := by rfl) (hl : (apos.endLine == pos.line) = true := by rfl) :
    QE X W (.Call (.Attribute o "join" apos) [e] [] pos) (dJoin da db) :=
  imE (pe_join ho he hs hb hl) fun σ H Q ⟨G, δ, μ, x, k, R, S, q, f, fx⟩ => ⟨G, δ, μ, x, _, R, S, q, fun G1 H1 v d μ1 S1 R1 A1 ⟨z, e1, q1⟩ => by
    subst e1
    cases A1
    refine ⟨⟨z, rfl⟩, G1, δ, μ1, x, _, R1, S.up S1, q1, fun G2 H2 l dl μ2 S2 R2 A2 ⟨xs, ys, e2, e3, hz, q2⟩ => ?_, fx.up S1⟩
    obtain ⟨p, vs, rfl, hl, hA⟩ := seq_at R2 A2 e2
    have ev := strs_at hA e3
    subst ev
    exact ⟨z, p, ys, rfl, rfl, .inl hl, hz, f G2 H2 _ _ μ2 (S1.trans S2) R2 (.str _) q2⟩, fx⟩
end
end Once

namespace Once
open PySem PySem.Spec PyProof.Rows L2
/-! ### what is walked -/
abbrev DI := Ds → Mu → DX → (List D → (Mu → Prop) → Mu → Prop) → Prop
structure Yields (K : PySem.W.Frag) (G : Hp) (J : It) (items : List D) (st : Mu → Prop) : Prop where
  go : ∀ (i : Nat) G' H μ, Same G G' → Rep K G' H μ → st μ → i < items.length → J.go i H
  yld : ∀ (i : Nat) G' H μ x H', Same G G' → Rep K G' H μ → st μ → J.yld i H x H' → ∃ G2, Same G' G2 ∧ (∀ ν, Rep K G' H ν → Rep K G2 H' ν) ∧ ∀ d, items[i]? = some d → At K G2 x d
  stop : ∀ (i : Nat) G' H μ, Same G G' → Rep K G' H μ → st μ → items.length ≤ i → J.stop i H
def liftI (K : PySem.W.Frag) (mg : Str → Option Value) (W : WX) (d : DI) : TI := fun σ H R => ∃ (G : Hp) (δ : Ds) (μ : Mu) (x : DX) (k : List D → (Mu → Prop) → Mu → Prop), Rep K G H μ ∧ SlotsAt K G σ δ ∧ d δ μ x k ∧
  (∀ G' H' J items st μ', Same G G' → Rep K G' H' μ' → Yields K G' J items st → k items st μ' → R J H') ∧ FinX K mg W G x
abbrev QI (X : Cx) (W : WX) (tg iter : Expr) (d : DI) : Prop := PI X tg iter (liftI X.K X.mg W d)
theorem imI {X : Cx} {tg e : Expr} {t t' : TI} (h : PI X tg e t) (i : ∀ σ H Q, t' σ H Q → t σ H Q) : PI X tg e t' := ⟨fun pins s σ H R I q => h.run pins s σ H R I (i σ H R q)⟩
def dIter (da : DE) : DI := fun δ μ x k => da δ μ x fun d μ1 => ∃ xs, seqOf μ1 d = some xs ∧ k xs (fun μ' => seqOf μ' d = some xs) μ1
def dIterT (da : DE) : DI := fun δ μ x k => da δ μ x fun d μ1 => ∃ xs, d = .tup xs ∧ k xs (fun _ => True) μ1
def signsD (z : Str) : List D := z.cps.toList.map fun c => .str ⟨#[c]⟩
def dIterS (da : DE) : DI := fun δ μ x k => da δ μ x fun d μ1 => ∃ z, d = .str z ∧ k (signsD z) (fun _ => True) μ1
def rngD (lo : Int) (n : Nat) : List D := (List.range n).map fun i => .int (lo + (i : Nat))
def dRng1 (t : DA) : DI := fun δ μ x k => t δ μ x fun ds μ1 => ∃ j : Int, ds = [.int j] ∧ j < 2 ^ 62 ∧ -(2 ^ 62) ≤ j ∧ k (rngD 0 j.toNat) (fun _ => True) μ1
def dRng2 (t : DA) : DI := fun δ μ x k => t δ μ x fun ds μ1 => ∃ i j : Int, ds = [.int i, .int j] ∧ i < 2 ^ 62 ∧ -(2 ^ 62) ≤ i ∧ j < 2 ^ 62 ∧ -(2 ^ 62) ≤ j ∧ k (rngD i (j - i).toNat) (fun _ => True) μ1
theorem Rep.ups {K : PySem.W.Frag} {G H : Hp} {μ : Mu} (R : Rep K G H μ) : Same G H := R.sub
section
variable {X : Cx} {W : WX} {a b e o tg : Expr} {es : List Expr} {da db : DE} {t : DA} {pos : Pos} {st : Stmt} {rest : List Stmt} {d1 d2 : DS}
theorem yl_list {K : PySem.W.Frag} {G : Hp} {a : Addr} {d : D} {xs : List D} (A : At K G (.ref a) d) : Yields K G (Itl K a) xs (fun μ => seqOf μ d = some xs) where
  go := fun i G' H μ S R e hl => by
    obtain ⟨p, vs, q, hs, ha⟩ := seq_at R (A.up S) e
    cases q
    have hv : i < vs.length := by rw [ha.length]; exact hl
    exact ⟨vs, vs[i], hs, by simp [hv]⟩
  yld := fun i G' H μ x H' S R e y => by
    obtain ⟨p, vs, q, hs, ha⟩ := seq_at R (A.up S) e
    cases q
    obtain ⟨eh, y⟩ := y
    subst eh
    refine ⟨G', Same.refl _, fun _ r => r, fun d' e' => ?_⟩
    obtain ⟨w, e1, e2⟩ := ha.get e'
    rw [y vs hs] at e1
    cases e1
    exact e2
  stop := fun i G' H μ S R e hl => by
    obtain ⟨p, vs, q, hs, ha⟩ := seq_at R (A.up S) e
    cases q
    exact ⟨vs, hs, by rw [ha.length]; exact hl⟩
theorem yl_tup {K : PySem.W.Frag} {G : Hp} {a : Addr} {vs : List V} {xs : List D} (h : Rd G a (.tup vs)) (ha : AtAll K G vs xs) : Yields K G (Itt K a) xs (fun _ => True) where
  go := fun i G' H μ S R _ hl => by
    have hv : i < vs.length := by rw [ha.length]; exact hl
    exact ⟨vs, vs[i], .inl (rdUp (S.trans R.sub) h), by simp [hv]⟩
  yld := fun i G' H μ x H' S R _ y => by
    obtain ⟨eh, y⟩ := y
    subst eh
    refine ⟨G', Same.refl _, fun _ r => r, fun d' e' => ?_⟩
    obtain ⟨w, e1, e2⟩ := ha.get e'
    rw [y vs (.inl (rdUp (S.trans R.sub) h))] at e1
    cases e1
    exact e2.up S
  stop := fun i G' H μ S R _ hl => ⟨vs, .inl (rdUp (S.trans R.sub) h), by rw [ha.length]; exact hl⟩
theorem yl_str {K : PySem.W.Frag} {G : Hp} (z : Str) : Yields K G (Its z) (signsD z) (fun _ => True) where
  go := fun i G' H μ S R _ hl => by
    have : i < z.cps.size := by simpa [signsD] using hl
    exact this
  yld := fun i G' H μ x H' S R _ y => by
    obtain ⟨eh, c, e1, e2⟩ := y
    subst eh
    refine ⟨G', Same.refl _, fun _ r => r, fun d' e' => ?_⟩
    subst e2
    have e3 : z.cps.toList[i]? = some c := by simpa using e1
    have e4 : d' = .str ⟨#[c]⟩ := by
      unfold signsD at e'
      rw [List.getElem?_map, e3] at e'
      exact (Option.some.inj e').symm
    subst e4
    exact .str _
  stop := fun i G' H μ S R _ hl => by
    have : z.cps.size ≤ i := by simpa [signsD] using hl
    exact this
theorem yl_rng {K : PySem.W.Frag} {G : Hp} (lo : Int) (n : Nat) : Yields K G (Itr lo n) (rngD lo n) (fun _ => True) where
  go := fun i G' H μ S R _ hl => by
    have : i < n := by simpa [rngD] using hl
    exact this
  yld := fun i G' H μ x H' S R _ y => by
    obtain ⟨eh, e1⟩ := y
    subst eh e1
    refine ⟨G', Same.refl _, fun _ r => r, fun d' e' => ?_⟩
    have hi : i < n := by
      have := (List.getElem?_eq_some_iff.mp e').1
      simpa [rngD] using this
    unfold rngD at e'
    rw [List.getElem?_map, List.getElem?_range hi] at e'
    have e4 := (Option.some.inj e').symm
    subst e4
    exact .int _
  stop := fun i G' H μ S R _ hl => by
    have : n ≤ i := by simpa [rngD] using hl
    exact this
theorem qi_list (h : QE X W e da) : QI X W tg e (dIter da) := imI (pi_list h) fun σ H Q ⟨G, δ, μ, x, k, R, S, q, f, fx⟩ => ⟨G, δ, μ, x, _, R, S, q, fun G1 H1 v d μ1 S1 R1 A1 ⟨xs, e1, q1⟩ => by
  obtain ⟨p, vs, ev, hs, ha⟩ := seq_at R1 A1 e1
  subst ev
  exact ⟨p, rfl, ⟨vs, hs⟩, f G1 H1 _ xs _ μ1 S1 R1 (yl_list A1) q1⟩, fx⟩
theorem qi_tup (h : QE X W e da) : QI X W tg e (dIterT da) := imI (pi_tup h) fun σ H Q ⟨G, δ, μ, x, k, R, S, q, f, fx⟩ => ⟨G, δ, μ, x, _, R, S, q, fun G1 H1 v d μ1 S1 R1 A1 ⟨xs, e1, q1⟩ => by
  subst e1
  cases A1 with
  | tup h1 r1 => exact ⟨_, rfl, ⟨_, .inl (rdUp R1.sub h1)⟩, f G1 H1 _ xs _ μ1 S1 R1 (yl_tup h1 r1) q1⟩, fx⟩
theorem qi_str (h : QE X W e da) : QI X W tg e (dIterS da) := imI (pi_str h) fun σ H Q ⟨G, δ, μ, x, k, R, S, q, f, fx⟩ => ⟨G, δ, μ, x, _, R, S, q, fun G1 H1 v d μ1 S1 R1 A1 ⟨z, e1, q1⟩ => by
  subst e1
  cases A1
  exact ⟨z, rfl, f G1 H1 _ _ _ μ1 S1 R1 (yl_str z) q1⟩, fx⟩
theorem qi_rng1 {p : Pos} (hg : Gl X "range") (hm : X.mg "range" = none) (h : QA X W [a] t) (hs : starEach [a] X.env = [(false, eval a X.env)] := by rfl) : QI X W tg (.Call (.Name "range" p) [a] [] pos) (dRng1 t) :=
  imI (pi_range1 hg hm h hs) fun σ H Q ⟨G, δ, μ, x, k, R, S, q, f, fx⟩ => ⟨G, δ, μ, x, _, R, S, q, fun G1 H1 vs ds μ1 S1 R1 A1 _ ⟨j, e1, h1, h2, q1⟩ => by
    subst e1
    match vs, A1 with
    | [_], .cons (.int _) .nil => exact ⟨j, rfl, h2, h1, f G1 H1 _ _ _ μ1 S1 R1 (yl_rng 0 _) q1⟩, fx⟩
theorem qi_rng2 {p : Pos} (hg : Gl X "range") (hm : X.mg "range" = none) (h : QA X W [a, b] t) (hs : starEach [a, b] X.env = [(false, eval a X.env), (false, eval b X.env)] := by rfl) (hs2 : starEach [b] X.env = [(false, eval b X.env)] := by rfl) :
    QI X W tg (.Call (.Name "range" p) [a, b] [] pos) (dRng2 t) :=
  imI (pi_range2 hg hm h hs hs2) fun σ H Q ⟨G, δ, μ, x, k, R, S, q, f, fx⟩ => ⟨G, δ, μ, x, _, R, S, q, fun G1 H1 vs ds μ1 S1 R1 A1 _ ⟨i, j, e1, h1, h2, h3, h4, q1⟩ => by
    subst e1
    match vs, A1 with
    | [_, _], .cons (.int _) (.cons (.int _) .nil) => exact ⟨i, j, rfl, ⟨h2, h1, h4, h3⟩, f G1 H1 _ _ _ μ1 S1 R1 (yl_rng i _) q1⟩, fx⟩

/-! ### for -/
def forD (g : DG) (body : DS) (st : Mu → Prop) (E : DEnds) : List D → Ds → Mu → Prop
  | [], δ, μ => st μ ∧ E.nx δ μ
  | d :: r, δ, μ => st μ ∧ g d δ μ fun δ1 μ1 => body { E with nx := forD g body st E r, ct := forD g body st E r, bk := E.nx } δ1 μ1
def dFor (it : DI) (g : DG) (body : DS) : DS := fun E δ μ => it δ μ E.ex fun items st μ1 => forD g body st E items δ μ1
theorem qs_for {iter : Expr} {body : List Stmt} {it : DI} {g : DG} {db : DS} (hp : PassesOwn (model X.prog X.w) X.A X.env X.xe) (hc : X.calm = true) (hi : QI X W tg iter it) (hg : QG X tg g) (hb : QSs X W body db)
    (hs : ∀ x, foldedSetIterable iter X.env x = pure x := by intro _; rfl) : QS X W (.For tg iter body [] pos) (dFor it g db) := by
  refine imS (ps_for hp hc hi hg hb hs) fun T σ H ⟨G, δ, μ, E, R, S, q, f⟩ => ⟨G, δ, μ, E.ex, _, R, S, q, fun G1 H1 J items st μ1 S1 R1 Y q1 => ?_, f.ex⟩
  refine ⟨fun i m σ' H' => m = items.length - i ∧ ∃ G' δ' μ', Same G1 G' ∧ Rep X.K G' H' μ' ∧ SlotsAt X.K G' σ' δ' ∧ forD g db st E (items.drop i) δ' μ', ⟨_, rfl, G1, δ, μ1, Same.refl _, R1, S.up S1, q1⟩, ?_⟩
  rintro i m σ2 H2 ⟨rfl, G2, δ2, μ2, S2, R2, Z2, q2⟩
  by_cases hl : i < items.length
  · rw [List.drop_eq_getElem_cons hl] at q2
    obtain ⟨hst, q2⟩ := q2
    refine .inr ⟨Y.go i G2 H2 μ2 S2 R2 hst hl, fun σ' H' => ∃ G' δ' μ', Same G1 G' ∧ Rep X.K G' H' μ' ∧ SlotsAt X.K G' σ' δ' ∧ forD g db st E (items.drop (i + 1)) δ' μ', fun σ' H' w => ⟨items.length - (i + 1), by omega, rfl, w⟩, fun x H3 y => ?_⟩
    obtain ⟨G3, S3, R3, A3⟩ := Y.yld i G2 H2 μ2 x H3 S2 R2 hst y
    refine ⟨G3, δ2, μ2, _, _, R3 μ2 R2, Z2.up S3, A3 _ (by simp [hl]), q2, fun G4 H4 σ4 δ4 μ4 S4 R4 Z4 q4 => ?_⟩
    have S24 := (S2.trans S3).trans S4
    refine ⟨G4, δ4, μ4, _, R4, Z4, q4, ⟨fun G5 H5 σ5 δ5 μ5 S5 R5 Z5 q5 => ⟨G5, δ5, μ5, S24.trans S5, R5, Z5, q5⟩, f.rt.up (S1.trans S24), f.nx.up (S1.trans S24), fun G5 H5 σ5 δ5 μ5 S5 R5 Z5 q5 => ⟨G5, δ5, μ5, S24.trans S5, R5, Z5, q5⟩, f.ex.up (S1.trans S24)⟩⟩
  · rw [List.drop_eq_nil_of_le (by omega)] at q2
    exact .inl ⟨Y.stop i G2 H2 μ2 S2 R2 q2.1 (by omega), f.nx G2 H2 σ2 δ2 μ2 (S1.trans S2) R2 Z2 q2.2⟩
/-! ### while -/
def whileD (c : DT) (body : DS) (E : DEnds) : Nat → Ds → Mu → Prop
  | 0, _, _ => False
  | n + 1, δ, μ => c δ μ E.ex fun b μ1 => if b = true then body { E with nx := whileD c body E n, ct := whileD c body E n, bk := E.nx } δ μ1 else E.nx δ μ1
def dWhile (c : DT) (body : DS) : DS := fun E δ μ => ∃ n, whileD c body E n δ μ
theorem qs_while {c : Expr} {body : List Stmt} {dc : DT} {db : DS} (hp : PassesOwn (model X.prog X.w) X.A X.env X.xe) (hc : QT X W c dc) (hb : QSs X W body db) : QS X W (.While c body [] pos) (dWhile dc db) := by
  refine imS (ps_while hp hc hb) fun T σ H ⟨G, δ, μ, E, R, S, ⟨n, q⟩, f⟩ => ?_
  refine ⟨fun m σ' H' => ∃ G' δ' μ', Same G G' ∧ Rep X.K G' H' μ' ∧ SlotsAt X.K G' σ' δ' ∧ whileD dc db E m δ' μ', ⟨n, G, δ, μ, Same.refl _, R, S, q⟩, ?_⟩
  rintro m σ2 H2 ⟨G2, δ2, μ2, S2, R2, Z2, q2⟩
  cases m with
  | zero => exact q2.elim
  | succ m =>
    refine ⟨G2, δ2, μ2, E.ex, _, R2, Z2, q2, fun G3 H3 b μ3 S3 R3 q3 => ?_, f.ex.up S2⟩
    cases b with
    | true =>
      refine iteT ⟨fun σ' H' => ∃ G' δ' μ', Same G G' ∧ Rep X.K G' H' μ' ∧ SlotsAt X.K G' σ' δ' ∧ whileD dc db E m δ' μ', fun σ' H' w => ⟨m, Nat.lt_succ_self _, w⟩, G3, δ2, μ3, _, R3, Z2.up S3, by simpa using q3, ?_⟩
      have S23 := S2.trans S3
      exact ⟨fun G5 H5 σ5 δ5 μ5 S5 R5 Z5 q5 => ⟨G5, δ5, μ5, S23.trans S5, R5, Z5, q5⟩, f.rt.up S23, f.nx.up S23, fun G5 H5 σ5 δ5 μ5 S5 R5 Z5 q5 => ⟨G5, δ5, μ5, S23.trans S5, R5, Z5, q5⟩, f.ex.up S23⟩
    | false => exact iteF (f.nx G3 H3 σ2 δ2 μ3 (S2.trans S3) R3 (Z2.up S3) (by simpa using q3))

/-! ### list comprehensions with one name -/
abbrev noX : DX := fun _ _ _ _ => False
abbrev wF : WX := fun _ _ _ _ => False
theorem fin_noX {K : PySem.W.Frag} {mg : Str → Option Value} {W : WX} {G : Hp} : FinX K mg W G noX := fun _ _ _ _ _ _ _ _ _ _ _ _ _ z => z.elim
abbrev QTs (X : Cx) (W : WX) (ifs : List Expr) (d : DT) : Prop := PTs X ifs (liftT X.K X.mg W d)
theorem imTs {es : List Expr} {t t' : TT} (h : PTs X es t) (i : ∀ σ H Q, t' σ H Q → t σ H Q) : PTs X es t' := ⟨fun pins s σ H Q I q => h.run pins s σ H Q I (i σ H Q q)⟩
def dYes : DT := fun _ μ _ k => k true μ
theorem qts_nil : QTs X W [] dYes := imTs pts_nil fun σ H Q ⟨G, δ, μ, x, k, R, S, q, f, fx⟩ => f G H true μ (Same.refl _) R q
theorem qts_one {c : Expr} {d : DT} (h : QT X W c d) : QTs X W [c] d := pts_one h
def compD (i : Nat) (tt : DT) (te : DE) (δ : Ds) (st : Mu → Prop) (a : Addr) (k : List D → Mu → Prop) : List D → List D → Mu → Prop
  | [], acc, μ => st μ ∧ k acc μ
  | d :: r, acc, μ => st μ ∧ tt (δ.set i (some d)) (put μ a (.lst acc)) noX fun b μ1 =>
      if b = true then te (δ.set i (some d)) μ1 noX fun y μ2 => ∃ μ3, μ2 = put μ3 a (.lst acc) ∧ μ3 a = none ∧ acc.length < sizeLine ∧ compD i tt te δ st a k r (acc ++ [y]) μ3
      else ∃ μ3, μ1 = put μ3 a (.lst acc) ∧ μ3 a = none ∧ compD i tt te δ st a k r acc μ3
def dComp (it : DI) (i : Nat) (tt : DT) (te : DE) : DE := fun δ μ x k => it δ μ x fun items st μ1 => ∀ a, μ1 a = none → compD i tt te (δ.set i none) st a (fun acc μ' => k (.lst acc) μ') items [] μ1
/-- .. whose list may change later -/
def dCompM (it : DI) (i : Nat) (tt : DT) (te : DE) : DE := fun δ μ x k => it δ μ x fun items st μ1 => ∀ a, μ1 a = none → compD i tt te (δ.set i none) st a (fun acc μ' => k (.mref a) (put μ' a (.lst acc))) items [] μ1
theorem put_inj {μ ν : Mu} {a : Addr} {m : MO} (h1 : μ a = none) (h2 : ν a = none) (e : put μ a m = put ν a m) : μ = ν := by
  funext b
  by_cases hb : b = a
  · subst hb; rw [h1, h2]
  · have := congrFun e b
    rw [put_ne hb, put_ne hb] at this
    exact this
theorem Rep.unput {K : PySem.W.Frag} {G H : Hp} {μ : Mu} {a : Addr} {m : MO} (R : Rep K G H (put μ a m)) (h : μ a = none) : Rep K G H μ := by
  have := R.drop (a := a)
  rw [cut_put h] at this
  exact this
theorem wipe1 (σ : St) (i : Nat) (v : V) : wipe ((wipe σ [i]).set i (some v)) [i] = wipe σ [i] := by
  show ((σ.set i none).set i (some v)).set i none = σ.set i none
  rw [List.set_set, List.set_set]
/-- what both forms of a comprehension share -/
theorem comp_im {K : PySem.W.Frag} {mg : Str → Option Value} {i : Nat} {dt : DT} {de : DE} {J : It} {items : List D} {stb : Mu → Prop} {G1 H1 : Hp} {σ : St} {δ : Ds} {μ1 : Mu} {kk : List D → Mu → Prop} {D : Addr} {Qd : Hp → Prop}
    (R1 : Rep K G1 H1 μ1) (S : SlotsAt K G1 σ δ) (Y : Yields K G1 J items stb) (hD : H1 D = none) (q : compD i dt de (δ.set i none) stb D kk items [] μ1)
    (fin : ∀ G' H' acc μ', Same G1 G' → Rep K G' H' (put μ' D (.lst acc)) → μ' D = none → kk acc μ' → Qd H') :
    ∃ Wd : Nat → Nat → Hp → Prop, (∃ m, Wd 0 m (upd H1 D (.lst []))) ∧ ∀ j m H, Wd j m H →
      (J.stop j H ∧ Qd H) ∨ (J.go j H ∧ ∃ Nx : Hp → Prop, (∀ H', Nx H' → ∃ m', m' < m ∧ Wd (j + 1) m' H') ∧ ∀ x H', J.yld j H x H' → gName i x (wipe σ [i]) H' fun σ2 H2 => wipe σ2 [i] = wipe σ [i] ∧ liftT K mg wF dt σ2 H2 fun b H3 =>
        if b = true then liftE K mg wF de σ2 H3 fun y H4 => ∃ acc, H4 D = some (.lst acc) ∧ acc.length < sizeLine ∧ Nx (upd H4 D (.lst (acc ++ [y]))) else Nx H3) := by
  have gD := R1.sub.free hD
  have Zw : SlotsAt K G1 (wipe σ [i]) (δ.set i none) := S.setN
  refine ⟨fun j m H => m = items.length - j ∧ ∃ G' acc μ', Same G1 G' ∧ Rep K G' H (put μ' D (.lst acc)) ∧ μ' D = none ∧ compD i dt de (δ.set i none) stb D kk (items.drop j) acc μ', ⟨_, rfl, G1, [], μ1, Same.refl _, R1.lay gD .nil, R1.fresh hD, q⟩, ?_⟩
  rintro j m H2 ⟨rfl, G2, acc, μ2, S2, R2, n2, q2⟩
  by_cases hl : j < items.length
  · rw [List.drop_eq_getElem_cons hl] at q2
    obtain ⟨hst, q2⟩ := q2
    refine .inr ⟨Y.go j G2 H2 μ2 S2 (R2.unput n2) hst hl, fun H' => ∃ G' acc μ', Same G1 G' ∧ Rep K G' H' (put μ' D (.lst acc)) ∧ μ' D = none ∧ compD i dt de (δ.set i none) stb D kk (items.drop (j + 1)) acc μ', fun H' w => ⟨items.length - (j + 1), by omega, rfl, w⟩, fun x H3 y => ?_⟩
    obtain ⟨G3, S3, up3, A3⟩ := Y.yld j G2 H2 μ2 x H3 S2 (R2.unput n2) hst y
    have R3 := up3 _ R2
    have S13 := S2.trans S3
    refine ⟨wipe1 σ i x, G3, (δ.set i none).set i (some items[j]), put μ2 D (.lst acc), noX, _, R3, (Zw.up S13).set (A3 _ (by simp [hl])), by rw [List.set_set] at q2 ⊢; exact q2, fun G4 H4 b μ4 S4 R4 q4 => ?_, fin_noX⟩
    have S14 := S13.trans S4
    cases b with
    | true =>
      refine iteT ⟨G4, (δ.set i none).set i (some items[j]), μ4, noX, _, R4, (Zw.up S14).set ((A3 _ (by simp [hl])).up S4), by rw [List.set_set]; simpa using q4, fun G5 H5 v d μ5 S5 R5 A5 q5 => ?_, fin_noX⟩
      obtain ⟨μ6, e6, n6, hz, q6⟩ := q5
      subst e6
      obtain ⟨gD5, vs, h1, h2⟩ := R5.mu D _ put_same
      refine ⟨vs, h1, by rw [h2.length]; exact hz, G5, acc ++ [d], μ6, S14.trans S5, ?_, n6, q6⟩
      have := R5.lay gD5 (h2.append (.cons A5 .nil))
      rw [put_put] at this
      exact this
    | false =>
      have q4' : ∃ μ3, μ4 = put μ3 D (.lst acc) ∧ μ3 D = none ∧ compD i dt de (δ.set i none) stb D kk (items.drop (j + 1)) acc μ3 := by simpa using q4
      obtain ⟨μ6, e6, n6, q6⟩ := q4'
      subst e6
      exact iteF ⟨G4, acc, μ6, S14, R4, n6, q6⟩
  · rw [List.drop_eq_nil_of_le (by omega)] at q2
    exact .inl ⟨Y.stop j G2 H2 μ2 S2 (R2.unput n2) q2.1 (by omega), fin G2 H2 acc μ2 S2 R2 n2 q2.2⟩
theorem q_comp {elt iter : Expr} {ifs : List Expr} {scope : Scope} {x : Str} {i : Nat} {p : Pos} {it : DI} {dt : DT} {de : DE} (hc : X.calm = true) (hN : X.N.Nodup) (hi : QI X W (.Name x p) iter it) (ok : BlkOk X.N X.env.scope scope [(x, i)])
    (hg : ∀ (s : Shared) (H : Hp) (C : Addr) (cl : List (Str × Addr)) (fp : List Addr), PG (X.blk s H scope (compEnvC scope cl C X.env) fp) (.Name x p) (gName i)) (ht : ∀ (s : Shared) (H : Hp) (C : Addr) (cl : List (Str × Addr)) (fp : List Addr), QTs (X.blk s H scope (compEnvC scope cl C X.env) fp) wF ifs dt)
    (he : ∀ (s : Shared) (H : Hp) (C : Addr) (cl : List (Str × Addr)) (fp : List Addr), QE (X.blk s H scope (compEnvC scope cl C X.env) fp) wF elt de) (hs : ∀ x, foldedSetIterable iter X.env x = pure x := by intro _; rfl) :
    QE X W (.ListComp elt [⟨.Name x p, iter, ifs, 0⟩] scope pos) (dComp it i dt de) :=
  imE (pe_lc (own := [(x, i)]) (g := gName i) hc hN hi ok hg ht he hs) fun σ H Q ⟨G, δ, μ, xx, k, R, S, q, f, fx⟩ => ⟨G, δ, μ, xx, _, R, S, q, fun G1 H1 J items st μ1 S1 R1 Y q1 D hD =>
    comp_im (kk := fun acc μ' => k (.lst acc) μ') R1 (S.up S1) Y hD (q1 D (R1.fresh hD)) fun G' H' acc μ' S' R' n' q' => by
      obtain ⟨vs, h2, S2, R2, A2⟩ := R'.freeze put_same
      rw [cut_put n'] at R2
      exact f _ H' _ _ μ' ((S1.trans S').trans S2) R2 A2 q', fx⟩
theorem q_compM {elt iter : Expr} {ifs : List Expr} {scope : Scope} {x : Str} {i : Nat} {p : Pos} {it : DI} {dt : DT} {de : DE} (hc : X.calm = true) (hN : X.N.Nodup) (hi : QI X W (.Name x p) iter it) (ok : BlkOk X.N X.env.scope scope [(x, i)])
    (hg : ∀ (s : Shared) (H : Hp) (C : Addr) (cl : List (Str × Addr)) (fp : List Addr), PG (X.blk s H scope (compEnvC scope cl C X.env) fp) (.Name x p) (gName i)) (ht : ∀ (s : Shared) (H : Hp) (C : Addr) (cl : List (Str × Addr)) (fp : List Addr), QTs (X.blk s H scope (compEnvC scope cl C X.env) fp) wF ifs dt)
    (he : ∀ (s : Shared) (H : Hp) (C : Addr) (cl : List (Str × Addr)) (fp : List Addr), QE (X.blk s H scope (compEnvC scope cl C X.env) fp) wF elt de) (hs : ∀ x, foldedSetIterable iter X.env x = pure x := by intro _; rfl) :
    QE X W (.ListComp elt [⟨.Name x p, iter, ifs, 0⟩] scope pos) (dCompM it i dt de) :=
  imE (pe_lc (own := [(x, i)]) (g := gName i) hc hN hi ok hg ht he hs) fun σ H Q ⟨G, δ, μ, xx, k, R, S, q, f, fx⟩ => ⟨G, δ, μ, xx, _, R, S, q, fun G1 H1 J items st μ1 S1 R1 Y q1 D hD =>
    comp_im (kk := fun acc μ' => k (.mref D) (put μ' D (.lst acc))) R1 (S.up S1) Y hD (q1 D (R1.fresh hD)) fun G' H' acc μ' S' R' n' q' => f G' H' _ _ _ (S1.trans S') R' (.mref D) q', fx⟩
/-- name = [..] -/
theorem qs_setC {elt iter : Expr} {ifs : List Expr} {scope : Scope} {x y : Str} {i n : Nat} {p py p2 : Pos} {it : DI} {dt : DT} {de : DE} (hc : X.calm = true) (hN : X.N.Nodup) (hy : X.N[n]? = some y) (hyl : X.env.scope.names.lookup y = some .local)
    (hsw : swapsWith (.ListComp elt [⟨.Name x p, iter, ifs, 0⟩] scope p2) (some (.Name y py)) pos.line X.env = pure true) (hi : QI X W (.Name x p) iter it) (ok : BlkOk X.N X.env.scope scope [(x, i)])
    (hg : ∀ (s : Shared) (H : Hp) (C : Addr) (cl : List (Str × Addr)) (fp : List Addr), PG (X.blk s H scope (compEnvC scope cl C X.env) fp) (.Name x p) (gName i)) (ht : ∀ (s : Shared) (H : Hp) (C : Addr) (cl : List (Str × Addr)) (fp : List Addr), QTs (X.blk s H scope (compEnvC scope cl C X.env) fp) wF ifs dt)
    (he : ∀ (s : Shared) (H : Hp) (C : Addr) (cl : List (Str × Addr)) (fp : List Addr), QE (X.blk s H scope (compEnvC scope cl C X.env) fp) wF elt de) (hs : ∀ x, foldedSetIterable iter X.env x = pure x := by intro _; rfl) :
    QS X W (.Assign [.Name y py] (.ListComp elt [⟨.Name x p, iter, ifs, 0⟩] scope p2) pos) (dSet n (dComp it i dt de)) :=
  imS (ps_setLc (i := n) (own := [(x, i)]) (g := gName i) hc hN hy hyl hsw hi ok hg ht he hs) fun T σ H ⟨G, δ, μ, E, R, S, q, f⟩ => ⟨G, δ, μ, E.ex, _, R, S, q, fun G1 H1 J items st μ1 S1 R1 Y q1 D hD =>
    comp_im (Qd := fun H' => gName n (.ref D) σ H' T.nx) (kk := fun acc μ' => E.nx (δ.set n (some (.lst acc))) μ') R1 (S.up S1) Y hD (q1 D (R1.fresh hD)) fun G' H' acc μ' S' R' n' q' => by
      obtain ⟨vs, h2, S2, R2, A2⟩ := R'.freeze put_same
      rw [cut_put n'] at R2
      have S3 := (S1.trans S').trans S2
      exact f.nx _ H' _ _ μ' S3 R2 ((S.up S3).set A2) q', f.ex⟩
end
end Once

namespace Once
open PySem PySem.Spec PyProof.Rows L2

/-! ### defs -/
abbrev DXF := Str → Fs → Mu → Prop
abbrev DF := List D → Mu → DXF → DK → Prop
def spD (K : PySem.W.Frag) (mg : Str → Option Value) (n : Nat) (F : DF) : Sp := fun vs H Q E => ∃ (G : Hp) (μ : Mu) (ds : List D) (x : DXF) (k : DK), Rep K G H μ ∧ AtAll K G vs ds ∧ ds.length = n ∧ F ds μ x k ∧ FinV K G k Q ∧
  ∀ G' H' c fs cls dd μ', Same G G' → Rep K G' H' μ' → XAt K mg G' c fs cls dd → x c fs μ' → E cls dd H'
theorem spD.len {K : PySem.W.Frag} {mg : Str → Option Value} {n : Nat} {F : DF} {vs : List V} {H : Hp} {Q : VK} {E : XK} (h : spD K mg n F vs H Q E) : vs.length = n := by
  obtain ⟨G, μ, ds, x, k, _, A, e, _⟩ := h
  rw [A.length, e]
structure FnD (P : Program) (w : World) (K : PySem.W.Frag) (mg : Str → Option Value) (base : Heap) (k : Nat) (f : Addr) (fd : FuncData) (ps : List Str) (F : DF) : Prop where
  run : ∀ (A : Around) (outer : List Env) (s : Shared) (H : Hp) (args : Args) (us : List Value) (vs : List V) (Q : VK) (E : XK), RoomD k A → Env0 P w K mg base A outer s H → BindsTo s fd args (ps.zip us) → Vals vs us → spD K mg ps.length F vs H Q E →
    codeAny (model P w) A (.call (.ref f) args) (CR (L2N.CX P w) outer P w H s Q E) s
theorem FnD.never {P : Program} {w : World} {K : PySem.W.Frag} {mg : Str → Option Value} {base : Heap} {k : Nat} {f : Addr} {fd : FuncData} {ps : List Str} : FnD P w K mg base k f fd ps (fun _ _ _ _ => False) :=
  ⟨fun _ _ _ _ _ _ _ _ _ _ _ _ _ h => by obtain ⟨_, _, _, _, _, _, _, _, z, _⟩ := h; exact z.elim⟩
def startD (n : Nat) (ds : List D) : Ds := ds.map some ++ List.replicate (n - ds.length) none
def bodyF (n : Nat) (b : DS) : DF := fun ds μ x k => b { nx := fun _ μ' => k .non μ', rt := k, bk := fun _ _ => False, ct := fun _ _ => False, ex := fun _ c fs μ' => x c fs μ' } (startD n ds) μ
theorem start_at {K : PySem.W.Frag} {G : Hp} {N : List Str} {vs : List V} {ds : List D} (A : AtAll K G vs ds) : SlotsAt K G (L2.start N vs) (startD N.length ds) := by
  have hl := A.length
  unfold L2.start startD
  refine ⟨by simp [hl], fun i d e => ?_⟩
  by_cases hi : i < ds.length
  · rw [List.getElem?_append_left (by simpa using hi)] at e
    rw [List.getElem?_map] at e
    have e' : ds[i]? = some d := by
      cases q : ds[i]? with
      | none => rw [q] at e; cases e
      | some z => rw [q] at e; cases e; rfl
    obtain ⟨v, h1, h2⟩ := A.get e'
    exact ⟨v, by rw [List.getElem?_append_left (by simpa [hl] using hi), List.getElem?_map, h1]; rfl, h2⟩
  · rw [List.getElem?_append_right (by simpa using hi), List.getElem?_replicate] at e
    split at e <;> cases e
/-- a def, by its body -/
theorem fn_ofD {P : Program} {w : World} {K : PySem.W.Frag} {mg : Str → Option Value} {base : Heap} {k : Nat} {f : Addr} {name qual : Str} {params : Arguments} {body : List Stmt} {scope : Scope} {dV kV doc pm cdv ct oc : Value} {an od : Option Addr} {osl : Array (Option Value)} {N ps : List Str} {b : DS}
    (lk : K.lookup f = some ⟨oc, od, .func (PySem.W.fnOf name qual params body scope dV kV doc pm an cdv ct), osl⟩) (hcd : PySem.W.codeIn K cdv qual = true) (S : FnScope N ps scope)
    (hbody : ∀ (A : Around) (outer : List Env) (s : Shared) (H : Hp) (E : XK), RoomD k (A.deeper (envOfC qual scope s.heap.objs.size f cdv)) →
      QSs (cxOf (L2N.CX P w) P w K mg base N qual scope f cdv A outer s H E) (fun cls d _ H' => E cls d H') body b) : FnD P w K mg base (k + 1) f (PySem.W.fnOf name qual params body scope dV kV doc pm an cdv ct) ps (bodyF N.length b) := by
  refine ⟨fun A outer s H args us vs Q E hr e0 hb r hsp => ?_⟩
  have hl : vs.length = ps.length := hsp.len
  have KX : K.In s.heap := e0.mod.kin.keeps fun a o e => (e0.bs a o e).1
  have lim : s.heap.NoLimit := e0.mod.nolimit.keeps fun a o e => (e0.bs a o e).1
  have hkind : ∀ y ∈ ps.zip us, scope.names.lookup y.1 = some .local ∨ (scope.names.lookup y.1 = some .cell ∧ ((cellsFrom (s.heap.objs.size + 1) scope.names []).lookup y.1).isSome = true) := fun y hy =>
    (S.par y.1 (List.of_mem_zip (a := y.1) (b := y.2) hy).1).elim (fun q => .inl q) fun q => .inr ⟨q, PySem.W.cellsFrom_some _ _ _ (.inl q)⟩
  have hd : A.depth < recursionLimit := by have := hr.dp; omega
  refine codeAny_call_function hd (KX _ _ lk) rfl S.co S.gen rfl (PySem.W.codeRec_of KX hcd) (hb _ _ _ _ (wpAny_newFunctionEnv_cells S.kind hkind fun env he s1 x => ?_))
  subst he
  refine ⟨lim.keeps x.toInCall.keep, codeAny_func ?_⟩
  have ht := hbody A outer s H E (hr.deeper _)
  have I : Inv (cxOf (L2N.CX P w) P w K mg base N qual scope f cdv A outer s H E) [] (L2.start N vs) H s1 := inv_start S hr.hd e0 hl r x
  have fin : ∀ {σ' : St} {H' : Hp} {v : V} {u : Value} {s' : Shared}, Inv (cxOf (L2N.CX P w) P w K mg base N qual scope f cdv A outer s H E) [] σ' H' s' → RelV v u → Q v H' → CE outer P w H s Q u s' := fun J rv q => ⟨_, _, J.os, J.bare, J.base, J.hok, rv, q⟩
  obtain ⟨G, μ, ds, xf, kf, R, At0, el, q, f1, f2⟩ := hsp
  refine wpAny_mono (ht.run [] s1 (L2.start N vs) H { nx := fun _ H' => Q .non H', rt := Q } I ⟨G, startD N.length ds, μ, _, R, start_at At0, q, ⟨fun G' H' _ _ μ' S' R' _ q' => f1 G' H' .non .non μ' S' R' .non q', f1, fun _ _ _ _ _ _ _ _ z => z.elim, fun _ _ _ _ _ _ _ _ z => z.elim, fun G' H' _ _ c fs cls dd μ' S' R' _ X' q' => f2 G' H' c fs cls dd μ' S' R' X' q'⟩⟩) (fun fl s' hs => ?_) fun e s' hs => hs
  cases fl with
  | ret u => obtain ⟨v, σ', H', J, rv, q⟩ := hs; exact fin J rv q
  | next => obtain ⟨σ', H', J, q⟩ := hs; exact fin (v := V.non) (u := Value.none) J rfl q
  | brk => obtain ⟨_, _, _, z⟩ := hs; exact False.elim z
  | cont => obtain ⟨_, _, _, z⟩ := hs; exact False.elim z
theorem _root_.L2.Fun.okD {P : Program} {w : World} {K : PySem.W.Frag} {mg : Str → Option Value} {base : Heap} {x qual : Str} {st : Stmt} {f : Addr} {fd : FuncData} {N ps : List Str} {k : Nat} {b : DS} (F : Fun K x qual st f fd) (S : FnScope N ps (defScope st))
    (hbody : ∀ (cdv : Value) (A : Around) (outer : List Env) (s : Shared) (H : Hp) (E : XK), RoomD k (A.deeper (envOfC qual (defScope st) s.heap.objs.size f cdv)) →
      QSs (cxOf (L2N.CX P w) P w K mg base N qual (defScope st) f cdv A outer s H E) (fun cls d _ H' => E cls d H') (defBody st) b) : FnD P w K mg base (k + 1) f fd ps (bodyF N.length b) := by
  obtain ⟨oc, od, kV, doc, pm, an, cdv, ct, osl, rfl, lk, hcd⟩ := F.ex
  exact fn_ofD lk hcd S (hbody cdv)

/-- .. where what was made within may be forgotten at the end -/
def SubM (ν μ : Mu) : Prop := ∀ a m, ν a = some m → μ a = some m
theorem SubM.refl (μ : Mu) : SubM μ μ := fun _ _ h => h
theorem Rep.less {K : PySem.W.Frag} {G H : Hp} {μ ν : Mu} (R : Rep K G H μ) (h : SubM ν μ) : Rep K G H ν := ⟨R.sub, fun a m e => R.mu a m (h a m e)⟩
def lessF (F : DF) : DF := fun ds μ x k => F ds μ (fun c fs μ' => ∃ ν, SubM ν μ' ∧ x c fs ν) (fun r μ' => ∃ ν, SubM ν μ' ∧ k r ν)
def bodyG (n : Nat) (b : DS) : DF := lessF (bodyF n b)
theorem FnD.less {P : Program} {w : World} {K : PySem.W.Frag} {mg : Str → Option Value} {base : Heap} {k : Nat} {f : Addr} {fd : FuncData} {ps : List Str} {F : DF} (h : FnD P w K mg base k f fd ps F) : FnD P w K mg base k f fd ps (lessF F) :=
  ⟨fun A outer s H args us vs Q E hr he hb hv ⟨G, μ, ds, x, kk, R, At0, el, q, f1, f2⟩ => h.run A outer s H args us vs Q E hr he hb hv ⟨G, μ, ds, _, _, R, At0, el, q, fun G' H' v r μ' S' R' A' ⟨ν, hs, q'⟩ => f1 G' H' v r ν S' (R'.less hs) A' q',
    fun G' H' c fs cls dd μ' S' R' X' ⟨ν, hs, q'⟩ => f2 G' H' c fs cls dd ν S' (R'.less hs) X' q'⟩⟩

section
variable {X : Cx} {W : WX} {a b e o tg : Expr} {es : List Expr} {da db : DE} {t : DA} {pos p : Pos} {st : Stmt} {rest : List Stmt} {d1 d2 : DS} {k : Nat} {f : Addr} {fd : FuncData} {ps : List Str} {F : DF} {x : Str}
theorem run_fnD {pins : List (Addr × Obj)} {σ : St} {H : Hp} {s : Shared} {Q : VK} {us : List Value} {vs : List V} (Fn : FnD X.prog X.w X.K X.mg X.base k f fd ps F) (hr : RoomD k X.A) (hb : Binds X.K fd ps []) (tk : L2N.Takes X W)
    (I : Inv X pins σ H s) (r : Vals vs us) (h : spD X.K X.mg ps.length F vs H Q (WE W σ)) : wpAny (model X.prog X.w) X.A (call (.ref f) us) (EP X pins σ Q) X.xe s := by
  have hl : us.length = ps.length := by rw [← r.length]; exact h.len
  have bd := hb s us I.kIn (by rw [List.append_nil]; exact hl)
  rw [List.append_nil] at bd
  refine wpAny_call (codeAny_mono (Fn.run X.A X.stack s H ⟨us, []⟩ us vs Q (WE W σ) hr I.env0 bd r h) fun res s' hq => ?_)
  cases res with
  | error ev => exact L2N.passAt tk σ pins H s ev s' I hq
  | ok fl =>
    cases fl with
    | ret u => exact I.after hq
    | next => exact False.elim hq
    | brk => exact False.elim hq
    | cont => exact False.elim hq
def dCall (F : DF) (t : DA) : DE := fun δ μ x k => t δ μ x fun ds μ1 => F ds μ1 (fun c fs μ' => x δ c fs μ') k
theorem q_call (Fn : FnD X.prog X.w X.K X.mg X.base k f fd ps F) (hr : RoomD k X.A) (hg : Gl X x) (hm : X.mg x = some (.ref f)) (hk : PySem.W.keepIn X.K (.ref f) = true) (hb : Binds X.K fd ps []) (tk : L2N.Takes X W) (ha : QA X W (e :: es) t) (hn : (e :: es).length = ps.length := by rfl)
    (hdb : (x == ("__debug__" : Str)) = false := by decide) (he : starEach (e :: es) X.env = (false, eval e X.env) :: starEach es X.env := by rfl) (hpl : (backTo pos (starEach es X.env)).any (·.1) = false := by rfl) :
    QE X W (.Call (.Name x p) (e :: es) [] pos) (dCall F t) := by
  refine ⟨fun pins s σ H Q I ⟨G, δ, μ, xx, kk, R, S, q, fv, fx⟩ => wpAny_Call_Name_kw (ld_glob I hg hm (PySem.W.callWith_K (h₀ := X.base) I.ok.mod.kin hk ?_ he hpl) hdb)⟩
  refine thn (ha.run pos pins s σ H (fun vs H1 => spD X.K X.mg ps.length F vs H1 Q (WE W σ)) I ⟨G, δ, μ, xx, _, R, S, q, fun G1 H1 vs ds μ1 S1 R1 A1 hn1 q1 => ⟨G1, μ1, ds, _, kk, R1, A1, hn1.trans hn, q1, fv.up S1, fun G2 H2 c fs cls dd μ2 S2 R2 X2 q2 =>
    fx G2 H2 σ δ c fs cls dd μ2 (S1.trans S2) R2 (S.up (S1.trans S2)) X2 q2⟩, fx⟩) fun us s1 ⟨vs, H1, I1, r, h⟩ => ⟨I1.kIn, run_fnD Fn hr hb tk I1 r h⟩
theorem q_call0 (Fn : FnD X.prog X.w X.K X.mg X.base k f fd [] F) (hr : RoomD k X.A) (hg : Gl X x) (hm : X.mg x = some (.ref f)) (hk : PySem.W.keepIn X.K (.ref f) = true) (hb : Binds X.K fd [] []) (tk : L2N.Takes X W) (hdb : (x == ("__debug__" : Str)) = false := by decide) :
    QE X W (.Call (.Name x p) [] [] pos) (dCall F dNil) := by
  refine ⟨fun pins s σ H Q I ⟨G, δ, μ, xx, kk, R, S, q, fv, fx⟩ => wpAny_Call_Name_kw (ld_glob I hg hm (PySem.W.callWith_K0 I.kIn hk (run_fnD (us := []) (vs := []) Fn hr hb tk I .nil ?_)) hdb)⟩
  exact ⟨G, μ, [], _, kk, R, .nil, rfl, q, fv, fun G2 H2 c fs cls dd μ2 S2 R2 X2 q2 => fx G2 H2 σ δ c fs cls dd μ2 S2 R2 (S.up S2) X2 q2⟩

/-! ### raising an own error whose __init__ keeps its arguments -/
def spI1 (C : Addr) (fn : Str) : Sp := fun vs H Q _ => ∃ (a : Addr) (v : V), vs = [.ref a, v] ∧ H a = some (exo a C none) ∧ ∀ dx, H dx = none → dx ≠ a → Q .non (upd (upd H dx (exd dx [(fn, v)])) a (exo a C (some dx)))
theorem init1 {P : Program} {w : World} {K : PySem.W.Frag} {mg : Str → Option Value} {base : Heap} {C f1 : Addr} {fd1 : FuncData} {qual fn : Str} {st : Stmt} {p1 p2 p3 p4 : Pos} (F1 : Fun K "__init__" qual st f1 fd1) (hst : defBody st = [.Assign [.Attribute (.Name "self" p1) fn p2] (.Name fn p3) p4])
    (S : FnScope ["self", fn] ["self", fn] (defScope st)) (T : OexC K C) (no : PySem.W.findIn K (.ref C) fn = some none) (hd : (fn == ("__debug__" : Str)) = false) (hcd : (fn == ("__classdict__" : Str)) = false)
    (hl1 : (defScope st).names.lookup ("self" : Str) = some .local) (hl2 : (defScope st).names.lookup fn = some .local) : FnOk P w K mg base CX0 1 f1 fd1 ["self", fn] (spI1 C fn) := by
  refine F1.ok S (fun vs H Q E h => ?_) (fun cdv A outer s H vs Q E hr h => ?_)
  · obtain ⟨a, v, rfl, _⟩ := h; rfl
  · rw [hst]
    obtain ⟨a, v, rfl, ha, kk⟩ := h
    refine ⟨_, pss_one (ps_ost (pe_var (i := 0) rfl (Or.inl hl1)) (pe_var (i := 1) rfl (Or.inl hl2) hd hcd)), ?_⟩
    exact ⟨_, rfl, _, rfl, a, C, rfl, T, no, .inl ⟨ha, fun dx n ne => kk dx n ne⟩⟩
theorem mk_endN {pins : List (Addr × Obj)} {σ : St} {H1 H2 : Hp} {Q : XK} {hp hp2 h2 : Heap} {g1 g2 : Array GenState} {d1 d2 : Drawn} {t1 t2 : Nat} {os1 os2 : OsState} {a C d : Addr} {fs : List (Str × V)} (T : Raises X (.ref C)) (I1 : Inv X pins σ H1 ⟨hp, g1, d1, t1, os1⟩)
    (ha : hp.objs.size ≤ a) (kp : ∀ b o, hp.get? b = some o → hp2.get? b = some o) (un : Un (frs X.stack) [] (upd H1 a (exo a C none)) H2 hp2 h2) (hok : HOk X.prog X.w H2 h2) (ho : os2 = os1) (hb : AllBare g2)
    (ea : H2 a = some (exo a C (some d))) (ed : H2 d = some (exd d fs)) (hd1 : H1 d = none) (q : Q (.ref C) (some d) (upd (del H2 a) d (.xd fs))) : L2N.MkP X pins σ Q (.ref a) ⟨h2, g2, d2, t2, os2⟩ := by
  obtain ⟨t0, G, J, kG, ge, hoe, na⟩ := mk_end0 (d2 := d2) (t2 := t2) I1 ha kp un hok ho hb ea ed hd1
  exact ⟨a, _, _, ⟨G, g2, d2, t2, os2⟩, _, .ref C, some d, rfl, J, kG, ge, hoe, ⟨rfl, rfl, fun vs e => by cases e; rfl⟩, rfl, rfl, na, rfl, hb, T, q⟩
theorem pmk_oexN {CX : CXT} {x : Str} {C fI : Addr} {k : Nat} {fd : FuncData} {ps : List Str} {sp : Sp} {ta : TA} (T : OexC X.K C) (iC : PySem.W.findIn X.K (.ref C) "__init__" = some (some (.ref fI))) (tI : PySem.W.typeIn X.K (.ref fI) = some (.type "function"))
    (F1 : FnOk X.prog X.w X.K X.mg X.base CX k fI fd ps sp) (hr : Room (k + 1) X.A) (hb : Binds X.K fd ps []) (hx : Passes CX X (fun _ _ _ => False)) (hg : Gl X x) (hm : X.mg x = some (.ref C)) (ha : PA X (e :: es) ta)
    (hdb : (x == ("__debug__" : Str)) = false := by decide) (he : starEach (e :: es) X.env = (false, eval e X.env) :: starEach es X.env := by rfl) (hpl : (backTo pos (starEach es X.env)).any (·.1) = false := by rfl) :
    L2N.PMk X (.Call (.Name x p) (e :: es) [] pos) (tMkO C sp [] ta) := by
  intro pins s σ H Q I h
  obtain ⟨nm, qn, N, bs, bm, sn, sub, ab, col, dd, k0, k1, k2, k3, k5, hC, hbm⟩ := T.cls
  refine wpAny_Call_Name_kw (ld_glob I hg hm (PySem.W.callWith_K (h₀ := X.base) I.ok.mod.kin T.kC (thn (ha.run pos pins s σ H _ I h) fun us s1 ⟨vs, H1, I1, r1, hz, q1⟩ => ⟨I1.kIn, ?_⟩) he hpl) hdb)
  show wpAny _ _ (call (.ref C) us) _ _ _
  obtain ⟨hp, g, dr, tk, os⟩ := s1
  have hn : H1 (hp.objs.size + 1) = none := I1.hok.fresh (Nat.le_succ _)
  have hq := q1 (hp.objs.size + 1) hn
  have kk : ∀ b o, hp.get? b = some o → ((hp.push (PySem.W.kdv_tup us)).push (PySem.HandSPX.excO C hp.objs.size)).get? b = some o := fun b o z => Heap.get?_push_of_some _ (Heap.get?_push_of_some _ z)
  have hget : ((hp.push (PySem.W.kdv_tup us)).push (PySem.HandSPX.excO C hp.objs.size)).get? (hp.objs.size + 1) = some (PySem.HandSPX.excO C hp.objs.size) := by heap_get
  have I2 : Inv X pins σ (upd H1 (hp.objs.size + 1) (exo (hp.objs.size + 1) C none)) ⟨(hp.push (PySem.W.kdv_tup us)).push (PySem.HandSPX.excO C hp.objs.size), g, dr, tk, os⟩ := I1.laid (t' := tk) (a := hp.objs.size + 1) (o := exo (hp.objs.size + 1) C none) (h' := (hp.push (PySem.W.kdv_tup us)).push (PySem.HandSPX.excO C hp.objs.size)) kk (Nat.le_succ _) (exo_ok hget)
  have r2 : Vals (V.ref (hp.objs.size + 1) :: (vs ++ [])) (Value.ref (hp.objs.size + 1) :: (us ++ [])) := .cons rfl (r1.append .nil)
  have hl : (Value.ref (hp.objs.size + 1) :: us ++ []).length = ps.length := by
    have z := r2.length
    rw [F1.len _ _ _ _ hq] at z
    exact z.symm
  have hus : us.length ≤ sizeLine := by
    rw [← Paired.length r1, sizeLine_eq]
    omega
  refine wpAny_call (PySem.HandSPX.call_own F.excBase_ValueError (fun Y => PySem.HandSPX.refsVE_contains Y bm hbm) (I1.kIn _ _ hC) (PySem.W.looks_findIn I1.kIn iC) (fun self => PySem.W.bind_fn I1.kIn self tI) hus
    (codeAny_mono (F1.run _ X.stack _ _ ⟨Value.ref (hp.objs.size + 1) :: us, []⟩ (Value.ref (hp.objs.size + 1) :: (us ++ [])) _ _ (fun _ _ _ => False) (hr.make C us []) (I2.env0.make C us []) (by simpa only [List.append_nil] using hb _ (Value.ref (hp.objs.size + 1) :: us) I2.kIn hl) r2 hq) fun r s' hq' => ?_))
  cases r with
  | error er => exact hx pins σ _ _ er s' I2 hq'
  | ok fl =>
    cases fl with
    | ret u =>
      obtain ⟨v, H2, os2, bare2, un2, hok2, rv, ev, d, fs, ea, ed, hd1, q2⟩ := hq'
      subst ev
      obtain ⟨h2, g2, d2, t2, os'⟩ := s'
      exact ⟨rv, mk_endN (raises_own T.exC T.tyC) I1 (Nat.le_succ _) kk un2 hok2 os2 bare2 ea ed hd1 q2⟩
    | next => exact False.elim hq'
    | brk => exact False.elim hq'
    | cont => exact False.elim hq'
/-- what the written part says of an own error with one field -/
structure Err1 (P : Program) (w : World) (K : PySem.W.Frag) (mg : Str → Option Value) (base : Heap) (x fn : Str) (C fI : Addr) (fd : FuncData) : Prop where
  T : OexC K C
  iC : PySem.W.findIn K (.ref C) "__init__" = some (some (.ref fI))
  tI : PySem.W.typeIn K (.ref fI) = some (.type "function")
  F1 : FnOk P w K mg base CX0 1 fI fd ["self", fn] (spI1 C fn)
  hb : Binds K fd ["self", fn] []
  hm : mg x = some (.ref C)
def dRaise1 (x fn : Str) (da : DE) : DS := fun E δ μ => da δ μ E.ex fun d μ1 => E.ex δ x ([fn], [d]) μ1
theorem exd_ne_lst {dx : Addr} {fs : List (Str × V)} {xs : List V} : exd dx fs ≠ .lst xs := fun z => by unfold exd at z; cases z
theorem qs_raise1 {C fI : Addr} {fn : Str} {p2 : Pos} (hc : X.calm = true) (Er : Err1 X.prog X.w X.K X.mg X.base x fn C fI fd) (hr : RoomD k X.A) (tk : L2N.Takes X W) (hg : Gl X x) (ha : QE X W e da) (hdb : (x == ("__debug__" : Str)) = false := by decide)
    (he : starEach (e :: []) X.env = (false, eval e X.env) :: starEach [] X.env := by rfl) (hpl : (backTo pos (starEach [] X.env)).any (·.1) = false := by rfl) : QS X W (.Raise (some (.Call (.Name x p) [e] [] pos)) none p2) (dRaise1 x fn da) :=
  imS (L2N.ps_raise hc tk (pmk_oexN Er.T Er.iC Er.tI Er.F1 (hr.room.mono (by decide)) Er.hb pass0 hg Er.hm (pa_cons ha pa_nil he) hdb he hpl)) fun T σ H ⟨G, δ, μ, E, R, S, q, f⟩ => ⟨G, δ, μ, E.ex, _, R, S, q, fun G1 H1 v d μ1 S1 R1 A1 q1 => by
    refine ⟨(by show 1 ≤ 1000; decide), fun a na => ⟨a, v, rfl, upd_same, fun dx ndx ne => ⟨rfl, dx, [(fn, v)], upd_same, ?_, ?_, ?_⟩⟩⟩
    · rw [upd_ne ne]; exact upd_same
    · rw [upd_ne ne] at ndx; exact ndx
    · have nd1 : H1 dx = none := by rw [upd_ne ne] at ndx; exact ndx
      -- the heap behind is H1 with the error's own dict
      have eH : upd (del (upd (upd (upd H1 a (exo a C none)) dx (exd dx [(fn, v)])) a (exo a C (some dx))) a) dx (.xd [(fn, v)]) = upd H1 dx (.xd [(fn, v)]) := by
        funext b
        by_cases h1 : b = dx
        · rw [h1, upd_same, upd_same]
        · rw [upd_ne h1, upd_ne h1]
          by_cases h2 : b = a
          · rw [h2, del_same]; exact na.symm
          · rw [del_ne h2, upd_ne h2, upd_ne h1, upd_ne h2]
      rw [eH]
      have gd := R1.sub.free nd1
      exact f.ex (upd G1 dx (.xd [(fn, v)])) _ σ δ x ([fn], [d]) _ _ μ1 (S1.trans (same_upd gd)) (R1.new nd1) (S.up (S1.trans (same_upd gd))) ⟨C, rfl, Er.hm, .inr ⟨dx, [(fn, v)], rfl, upd_same, rfl, .cons (A1.up (same_upd gd)) .nil⟩⟩ q1, f.ex⟩
end
end Once

namespace Once
open PySem PySem.Spec PyProof.Rows L2
section
variable {X : Cx} {W : WX} {a b e o tg : Expr} {es : List Expr} {da db : DE} {t : DA} {pos p : Pos} {st : Stmt} {rest : List Stmt} {d1 d2 : DS}

/-! ### try .. except x as n -/
def dTry (i : Nat) (db : DS) (sub : Str → Option Bool) (su : Str → Addr → Option Addr → DS) : DS := fun E δ μ =>
  db { E with ex := fun δ1 c fs μ1 => (sub c = some true ∧ ∀ a dd, su c a dd { nx := fun δ2 μ2 => E.nx (δ2.set i none) μ2, rt := E.rt, bk := fun δ2 μ2 => E.bk (δ2.set i none) μ2, ct := fun δ2 μ2 => E.ct (δ2.set i none) μ2, ex := noX } (δ1.set i (some (.exc a c dd fs.1 fs.2))) μ1) ∨
    (sub c = some false ∧ E.ex δ1 c fs μ1) } δ μ
theorem exc_at {K : PySem.W.Frag} {mg : Str → Option Value} {G : Hp} {c : Str} {fs : Fs} {cls : Value} {dd : Option Addr} (h : XAt K mg G c fs cls dd) (a : Addr) : At K G (.ref a) (.exc a c dd fs.1 fs.2) := by
  obtain ⟨C, _, _, ⟨rfl, rfl⟩ | ⟨d, fv, rfl, h1, h2, h3⟩⟩ := h
  · exact .exc0 a c
  · exact .exc h1 h2 h3
theorem qs_try {x n : Str} {c : Value} {i : Nat} {body suite : List Stmt} {b₀ : Stmt} {np pos' : Pos} {db : DS} {sub : Str → Option Bool} {su : Str → Addr → Option Addr → DS}
    (hs : X.stack = X.env :: X.outer) (hf : X.env.frame = some X.env.locals) (hN : X.N.Nodup) (hi : X.N[i]? = some n) (hln : X.env.kindOf n = some .local) (hc : Names X x c) (tk : L2N.Takes X W)
    (hsub : ∀ (cn : Str) (C : Addr) (b : Bool), X.mg cn = some (.ref C) → sub cn = some b → PySem.W.exmOne X.K (.ref C) c = some b)
    (hb : ∀ (Wt : WX) (pn : List (Addr × Obj)) (xe : Value → Shared → Prop), L2N.Takes (X.tr pn xe) Wt → PassesOwn (model X.prog X.w) X.A X.env xe → QSs (X.tr pn xe) Wt body db)
    (hsu : ∀ (a : Addr) (oe : Obj) (C : Addr) (cn : Str) (dd : Option Addr) (pn : List (Addr × Obj)), X.mg cn = some (.ref C) → sub cn = some true → L2N.Zn (.ref C) dd oe → (∃ vs, oe.data = .fields vs) → QSs (X.suite a ((a, oe) :: pn)) wF (b₀ :: suite) (su cn a dd)) :
    QS X W (.Try body [.ExceptHandler (some (.Name x np)) (some n) (b₀ :: suite) pos'] [] [] pos) (dTry i db sub su) := by
  refine imS (L2N.ps_try_as (tb := fun Wt => liftS X.K X.mg Wt db)
    (ts := fun a cls dd => fun T σ H => ∃ (cn : Str) (C : Addr) (G : Hp) (δ : Ds) (μ : Mu) (E : DEnds), cls = .ref C ∧ X.mg cn = some (.ref C) ∧ sub cn = some true ∧ Rep X.K G H μ ∧ SlotsAt X.K G σ δ ∧ su cn a dd E δ μ ∧ FinS X.K X.mg wF G E T)
    hs hf hN hi hln hc tk hb fun a oe cls dd pn hz hv => ⟨fun pins s σ H T I ⟨cn, C, G, δ, μ, E, ec, hm, hsb, R, S, q, f⟩ => ?_⟩) fun T σ H ⟨G, δ, μ, E, R, S, q, f⟩ => ?_
  · subst ec
    exact (hsu a oe C cn dd pn hm hsb hz hv).run pins s σ H T I ⟨G, δ, μ, E, R, S, q, f⟩
  · refine ⟨G, δ, μ, _, R, S, q, ⟨f.nx, f.rt, f.bk, f.ct, fun G1 H1 σ1 δ1 cn fs cls dd μ1 S1 R1 Z1 x1 q1 => ?_⟩⟩
    obtain ⟨C, ec, hm, hx⟩ := id x1
    subst ec
    rcases q1 with ⟨h1, q1⟩ | ⟨h1, q1⟩
    · refine ⟨true, hsub cn C true hm h1, fun _ a _ => ?_, fun z => Bool.noConfusion z⟩
      refine ⟨cn, C, G1, _, μ1, _, rfl, hm, h1, R1, Z1.set (exc_at x1 a), q1 a dd, ⟨fun G2 H2 σ2 δ2 μ2 S2 R2 Z2 q2 => f.nx G2 H2 _ _ μ2 (S1.trans S2) R2 Z2.setN q2, f.rt.up S1, fun G2 H2 σ2 δ2 μ2 S2 R2 Z2 q2 => f.bk G2 H2 _ _ μ2 (S1.trans S2) R2 Z2.setN q2, fun G2 H2 σ2 δ2 μ2 S2 R2 Z2 q2 => f.ct G2 H2 _ _ μ2 (S1.trans S2) R2 Z2.setN q2, fin_noX⟩⟩
    · exact ⟨false, hsub cn C false hm h1, fun z => Bool.noConfusion z, fun _ => f.ex G1 H1 σ1 δ1 cn fs _ dd μ1 S1 R1 Z1 x1 q1⟩
/-! ### in the suite -/
def fldOf (f : Str) : List Str → List D → Option D
  | n :: ns, v :: vs => if f = n then some v else fldOf f ns vs
  | _, _ => none
theorem fld_at {K : PySem.W.Frag} {G : Hp} {f : Str} {v : D} : ∀ {fv : List (Str × V)} {ds : List D}, AtAll K G (fv.map (·.2)) ds → fldOf f (fv.map (·.1)) ds = some v → ∃ u, fv.lookup f = some u ∧ At K G u v
  | [], _, A, e => by cases A; cases e
  | (n, u) :: r, ds, A, e => by
    rw [List.map_cons] at A
    cases A with
    | cons a1 a2 =>
      rw [List.map_cons] at e
      unfold fldOf at e
      by_cases h : f = n
      · rw [if_pos h] at e
        cases e
        subst h
        exact ⟨u, by simp [List.lookup], a1⟩
      · rw [if_neg h] at e
        obtain ⟨w, e1, e2⟩ := fld_at a2 e
        have hb : (f == n) = false := by simpa using h
        exact ⟨w, by simp [List.lookup, hb, e1], e2⟩
def dXf (a : Addr) (cn : Str) (dd : Option Addr) (f : Str) (de : DE) : DE := fun δ μ x k => de δ μ x fun d μ1 => ∃ ns vs v, d = .exc a cn dd ns vs ∧ fldOf f ns vs = some v ∧ k v μ1
theorem q_xf {a C : Addr} {oe : Obj} {cn f : Str} {dd : Option Addr} {pn : List (Addr × Obj)} {e : Expr} {de : DE} (T : XfC X.K C) (hno : PySem.W.findIn X.K (.ref C) f = some none) (hz : L2N.Zn (.ref C) dd oe) (hf : ∃ vs, oe.data = .fields vs)
    (he : QE (X.suite a ((a, oe) :: pn)) W e de) (hb : attributeBase e f X.env (eval e X.env) = eval e X.env := by rfl) : QE (X.suite a ((a, oe) :: pn)) W (.Attribute e f pos) (dXf a cn dd f de) :=
  imE (pe_xf T hno hz.zc hf he hb) fun σ H Q ⟨G, δ, μ, x, k, R, S, q, f, fx⟩ => ⟨G, δ, μ, x, _, R, S, q, fun G1 H1 v d μ1 S1 R1 A1 ⟨ns, vs, w, e1, e2, q1⟩ => by
    subst e1
    cases A1 with
    | exc0 => cases e2
    | exc h1 h2 h3 =>
      subst h2
      obtain ⟨u, e3, Au⟩ := fld_at h3 e2
      exact ⟨rfl, rfl, _, _, u, rfl, R1.sub _ _ h1, e3, f G1 H1 u w μ1 S1 R1 Au q1⟩, fx⟩
/-- isinstance(e, C2), e the error that is held -/
def dIsE (a : Addr) (cn : Str) (dd : Option Addr) (b : Bool) (de : DE) : DE := fun δ μ x k => de δ μ x fun d μ1 => ∃ ns vs, d = .exc a cn dd ns vs ∧ k (.bl b) μ1
theorem isE_any {a C C2 : Addr} {oe : Obj} {dd : Option Addr} {pn : List (Addr × Obj)} {bb : Bool} (T : ExcC X.K C) (hz : L2N.Zn (.ref C) dd oe) (hf : ∃ vs, oe.data = .fields vs) (hk : PySem.W.kitOne X.K (.ref C) (.ref C2) = some bb) :
    CallR (X.suite a ((a, oe) :: pn)) (.builtin "isinstance") (fun xs H Q => xs = [.ref a, .ref C2] ∧ (dd = none ∨ ∃ d fv, dd = some d ∧ H d = some (.xd fv)) ∧ Q (.bl bb) H) := by
  intro pins s σ H xs us Q I r ⟨ex, hd, q⟩
  subst ex
  obtain ⟨u1, u2, rfl, r1, r2⟩ := vals2 r
  obtain rfl : u1 = Value.ref a := r1
  obtain rfl : u2 = Value.ref C2 := r2
  obtain ⟨hget, _⟩ := I.pin (a, oe) (List.mem_append.mpr (.inl List.mem_cons_self))
  obtain ⟨vs, hv⟩ := hf
  have fin : ∀ tk, EP (X.suite a ((a, oe) :: pn)) pins σ Q (.bool bb) { s with toks := tk } := fun tk => ⟨.bl bb, H, I.tok tk, rfl, q⟩
  have hcl : (PySem.W.clsIn X.K C).isSome = true := by
    have := T.hd
    unfold PySem.W.hasDictIn at this
    cases e : PySem.W.clsIn X.K C with
    | none => rw [e] at this; simp at this
    | some z => rfl
  obtain ⟨oc, od, oda, osl⟩ := oe
  obtain ⟨h1, h2, _⟩ := hz
  dsimp only at h1 h2 hv
  subst h1 h2 hv
  rcases hd with h | ⟨d, fv, h, hh⟩
  · subst h
    have J : PySem.W.InstAt s.heap a ⟨.ref C, none, .fields vs, osl⟩ C none := ⟨hget, rfl, rfl, trivial⟩
    exact PySem.W.kia_one (PySem.W.kitx_exc hcl T.hg T.hk T.hs T.ha T.hn T.ht T.hm) I.kIn J hk (fun z => nomatch z) fin
  · subst h
    obtain ⟨mA, hns, _⟩ := (show ObjOk X.prog X.w H s.heap d (.xd fv) from I.hok d _ hh)
    obtain ⟨od2, ho, hl⟩ := lookIn_ns hns
    have J : PySem.W.InstAt s.heap a ⟨.ref C, some d, .fields vs, osl⟩ C (some od2) := ⟨hget, rfl, rfl, ho⟩
    exact PySem.W.kia_one (PySem.W.kitx_exc hcl T.hg T.hk T.hs T.ha T.hn T.ht T.hm) I.kIn J hk (fun z => nomatch z) fin
theorem q_isE {a C C2 : Addr} {oe : Obj} {cn x2 : Str} {dd : Option Addr} {pn : List (Addr × Obj)} {e : Expr} {de : DE} {bb : Bool} {p1 p2 : Pos} (T : ExcC X.K C) (hz : L2N.Zn (.ref C) dd oe) (hf : ∃ vs, oe.data = .fields vs) (hk : PySem.W.kitOne X.K (.ref C) (.ref C2) = some bb)
    (hg : Gl X "isinstance") (hm : X.mg "isinstance" = none) (hg2 : Gl X x2) (hm2 : X.mg x2 = some (.ref C2)) (he : QE (X.suite a ((a, oe) :: pn)) W e de) (hdb : (x2 == ("__debug__" : Str)) = false := by decide)
    (hs1 : starEach [e, .Name x2 p2] X.env = (false, eval e X.env) :: starEach [.Name x2 p2] X.env := by rfl) (hs2 : starEach [.Name x2 p2] X.env = (false, eval (.Name x2 p2) X.env) :: starEach [] X.env := by rfl) (hpl : (backTo pos (starEach [.Name x2 p2] X.env)).any (·.1) = false := by rfl) :
    QE (X.suite a ((a, oe) :: pn)) W (.Call (.Name "isinstance" p1) [e, .Name x2 p2] [] pos) (dIsE a cn dd bb de) :=
  imE (pe_callB (X := X.suite a ((a, oe) :: pn)) (isE_any T hz hf hk) hg hm (by decide +kernel) (pa_cons he (pa_cons (pe_glob (v := .ref C2) hg2 hm2 rfl hdb) pa_nil hs2) hs1) (by decide) (by decide) hs1 hpl) fun σ H Q ⟨G, δ, μ, x, k, R, S, q, f, fx⟩ => ⟨G, δ, μ, x, _, R, S, q, fun G1 H1 v d μ1 S1 R1 A1 ⟨ns, vs, e1, q1⟩ => by
    subst e1
    have fin := f G1 H1 _ _ μ1 S1 R1 (.bl bb) q1
    cases A1 with
    | exc0 => exact ⟨rfl, .inl rfl, fin⟩
    | exc h1 h2 h3 => exact ⟨rfl, .inr ⟨_, _, rfl, R1.sub _ _ h1⟩, fin⟩, fx⟩
/-! ### a def called while an error is handled -/
theorem hot_suite {a : Addr} {oe : Obj} {cls : Value} {dd : Option Addr} {pn : List (Addr × Obj)} (hz : L2N.Zn cls dd oe) (hf : ∃ vs, oe.data = .fields vs) : L2H.HotC (X.suite a ((a, oe) :: pn)) := by
  obtain ⟨vs, hv⟩ := hf
  exact ⟨(a, oe), ⟨rfl, vs, hv, hz.2.2 vs hv⟩, List.mem_cons_self⟩
theorem passH {X : Cx} (σ : St) (E : XK) : PassesAt CX0 X σ E := fun _ _ _ _ _ _ h => h.elim
abbrev FnHD (P : Program) (w : World) (K : PySem.W.Frag) (mg : Str → Option Value) (base : Heap) (k : Nat) (f : Addr) (fd : FuncData) (ps : List Str) (F : DF) : Prop := L2H.FnH P w K mg base CX0 k f fd ps (spD K mg ps.length F)
theorem fn_ofHD {P : Program} {w : World} {K : PySem.W.Frag} {mg : Str → Option Value} {base : Heap} {k : Nat} {f : Addr} {fd : FuncData} {x qual : Str} {st : Stmt} {N ps : List Str} {b : DS} (F : Fun K x qual st f fd) (S : FnScope N ps (defScope st))
    (hbody : ∀ (cdv : Value) (A : Around) (outer : List Env) (s : Shared) (H : Hp) (E : XK) (p : Addr × Obj), L2H.Hot1 A p →
      QSs (L2H.cxH CX0 P w K mg base N qual (defScope st) f cdv A outer s H E p) wF (defBody st) b) (hx : ∀ (ds : List D) (μ : Mu) (x : DXF) (k : DK), bodyF N.length b ds μ x k → bodyF N.length b ds μ (fun _ _ _ => False) k) : FnHD P w K mg base (k + 1) f fd ps (bodyF N.length b) := by
  obtain ⟨oc, od, kV, doc, pm, an, cdv, ct, osl, rfl, lk, hcd⟩ := F.ex
  refine L2H.fn_ofH lk hcd S (fun vs H Q E h => h.len) fun A outer s H vs Q E p hot hr hsp => ⟨_, hbody cdv A outer s H E p hot, ?_⟩
  obtain ⟨G, μ, ds, xf, kf, R, At0, el, q, f1, f2⟩ := hsp
  exact ⟨G, startD N.length ds, μ, _, R, start_at At0, hx _ _ _ _ q, ⟨fun G' H' _ _ μ' S' R' _ q' => f1 G' H' .non .non μ' S' R' .non q', f1, fun _ _ _ _ _ _ _ _ z => z.elim, fun _ _ _ _ _ _ _ _ z => z.elim, fun _ _ _ _ _ _ _ _ _ _ _ _ _ z => z.elim⟩⟩
theorem q_callH {x : Str} {k : Nat} {f : Addr} {fd : FuncData} {ps : List Str} {F : DF} (Fn : FnHD X.prog X.w X.K X.mg X.base k f fd ps F) (hr : L2H.RoomH k X.A) (hc : L2H.HotC X) (hg : Gl X x) (hm : X.mg x = some (.ref f)) (hk : PySem.W.keepIn X.K (.ref f) = true) (hb : Binds X.K fd ps []) (ha : QA X wF (e :: es) t)
    (hn : (e :: es).length = ps.length := by rfl) (hdb : (x == ("__debug__" : Str)) = false := by decide) (he : starEach (e :: es) X.env = (false, eval e X.env) :: starEach es X.env := by rfl) (hpl : (backTo pos (starEach es X.env)).any (·.1) = false := by rfl) :
    QE X wF (.Call (.Name x p) (e :: es) [] pos) (dCall F t) :=
  imE (L2H.pe_callH (E := fun _ _ _ _ => False) Fn hr hc hg hm hk hb (fun σ => passH σ _) ha hdb he hpl) fun σ H Q ⟨G, δ, μ, xx, kk, R, S, q, fv, fx⟩ => ⟨G, δ, μ, xx, _, R, S, q, fun G1 H1 vs ds μ1 S1 R1 A1 hn1 q1 =>
    ⟨G1, μ1, ds, _, kk, R1, A1, hn1.trans hn, q1, fv.up S1, fun G2 H2 c fs cls dd μ2 S2 R2 X2 q2 => fx G2 H2 σ δ c fs cls dd μ2 (S1.trans S2) R2 (S.up (S1.trans S2)) X2 q2⟩, fx⟩
theorem roomH_suite {A : Around} {k : Nat} {v : Option Value} (hr : RoomD k A) : L2H.RoomH 1 (A.mark v) := ⟨by have := hr.dp; show A.depth + 3 * 1 + 5 < _; omega, by have := hr.un; show A.units + 16 * 1 + 200 < _; omega⟩
theorem un0_suite {a : Addr} {pn : List (Addr × Obj)} (h : Un0 X.A) : Un0 (X.suite a pn).A := h
theorem takesF {X : Cx} : L2N.Takes X wF := fun _ _ x => by
  obtain ⟨_, _, _, _, _, _, _, _, _, _, _, _, _, _, _, _, z⟩ := x
  exact z.elim
/-- a list that changes no more from here on -/
def dFrz (da : DE) : DE := fun δ μ x k => da δ μ x fun d μ1 => ∃ a xs, d = .mref a ∧ μ1 a = some (.lst xs) ∧ k (.lst xs) (cut μ1 a)
theorem q_frz (h : QE X W e da) : QE X W e (dFrz da) := imE h fun σ H Q ⟨G, δ, μ, x, k, R, S, q, f, fx⟩ => ⟨G, δ, μ, x, _, R, S, q, fun G1 H1 v d μ1 S1 R1 A1 ⟨a, xs, e1, e2, q1⟩ => by
  subst e1
  cases A1
  obtain ⟨vs, h2, S2, R2, A2⟩ := R1.freeze e2
  exact f _ H1 _ _ _ (S1.trans S2) R2 A2 q1, fx⟩
def dNeg (da : DE) : DE := fun δ μ x k => da δ μ x fun d μ1 => ∃ i, d = .int i ∧ k (.int (-i)) μ1
theorem q_neg (h : QE X W e da) : QE X W (.UnaryOp .USub e pos) (dNeg da) := imE (pe_un un_neg h) fun σ H Q ⟨G, δ, μ, x, k, R, S, q, f, fx⟩ => ⟨G, δ, μ, x, _, R, S, q, fun G1 H1 v d μ1 S1 R1 A1 ⟨i, e1, q1⟩ => by
  subst e1
  cases A1
  exact ⟨i, rfl, f G1 H1 _ _ μ1 S1 R1 (.int _) q1⟩, fx⟩
theorem qt_isN {j : Nat} {p : Pos} (ha : QE X W a da) : QT X W (.Compare a [.Is] [.Constant .none j p] pos) (dB (dIsN da)) :=
  imT (pt_cmp (pc_isN ha) (by rfl)) fun σ H Q ⟨G, δ, μ, x, k, R, S, q, f, fx⟩ => ⟨G, δ, μ, x, _, R, S, q, fun G1 H1 v d μ1 S1 R1 A1 ⟨b, e1, q1⟩ => by
    cases e1
    exact ⟨_, rfl, by rw [at_non A1]; exact f G1 H1 _ μ1 S1 R1 q1⟩, fx⟩
theorem qt_notN {j : Nat} {p : Pos} (ha : QE X W a da) : QT X W (.Compare a [.IsNot] [.Constant .none j p] pos) (dB (dNotN da)) :=
  imT (pt_cmp (pc_notN ha) (by rfl)) fun σ H Q ⟨G, δ, μ, x, k, R, S, q, f, fx⟩ => ⟨G, δ, μ, x, _, R, S, q, fun G1 H1 v d μ1 S1 R1 A1 ⟨b, e1, q1⟩ => by
    cases e1
    exact ⟨_, rfl, by rw [at_non A1]; exact f G1 H1 _ μ1 S1 R1 q1⟩, fx⟩
end
end Once

namespace Once
open PySem PySem.Spec PyProof.Rows L2
/-! ### a law's end -/
/-- what a law asks of its script, over data -/
def LawD (n : Nat) (F : DF) : Prop := ∀ ns : List Int, ns.length ≤ n → F [.scr ns] (fun _ => none) (fun _ _ _ => False) (fun d _ => d = .bl true)
theorem room_caller {k : Nat} (h : k ≤ 600) : RoomD k callerA := by
  refine ⟨rfl, rfl, ?_, ?_⟩
  · show 1 + claimMargin + k + 30 < recursionLimit
    have h1 : claimMargin = 300 := rfl
    have h2 : recursionLimit = 1000 := rfl
    omega
  · show 4 + 8 * k + 900 < cLine
    have h2 : cLine = 9900 := rfl
    omega
theorem lawD {P : Program} {w : World} {K : PySem.W.Frag} {mg mb : Str → Option Value} {k n : Nat} {fa a : Addr} {fd : FuncData} {x : Str} {F : DF} {s₁ : Shared} {vs : List Value} {ns : List Int}
    (KX : K.In s₁.heap) (hns : s₁.heap.Ns mainGlobals mg) (hb : s₁.heap.Ns builtinsNs mb) (hbb : ∀ x : Str, x ≠ "__name__" → mb x = bootBuiltins x) (hlim : s₁.heap.NoLimit) (hg : s₁.gens = #[])
    (ha : s₁.heap.get? a = some { cls := .type "list", data := .seq vs.toArray }) (hi : IntsAre vs ns) (hl : ns.length ≤ n) (hn : n ≤ 1000) (hk : k ≤ 600)
    (Fn : ∀ base : Heap, K.In base → base.Ns mainGlobals mg → FnD P w K mg base k fa fd [x] F) (hbind : ∀ (s : Shared) (u : Value), BindsTo s fd ⟨[u], []⟩ [(x, u)]) (hF : LawD n F) :
    codeAny (model P w) callerA (.call (.ref fa) ⟨[.ref a], []⟩) (fun r s' => r = .ok (.ret (.bool true)) ∧ OldK s₁.heap s'.heap ∧ s'.os = s₁.os ∧ AllBare s'.gens) s₁ := by
  have rv := vals_ints hi
  have lenV := hi.length
  have hline : ns.length ≤ sizeLine := Nat.le_of_lt (small1000 (Nat.le_trans hl hn))
  -- over any abstract heap that tracks the script alone
  suffices core : ∀ H : Hp, Only H → SqL K H a (ns.map V.int) → HOk P w H s₁.heap → (∀ c, H c ≠ none → c = a) → (H a ≠ none → K.lookup a = none) →
      codeAny (model P w) callerA (.call (.ref fa) ⟨[.ref a], []⟩) (fun r s' => r = .ok (.ret (.bool true)) ∧ OldK s₁.heap s'.heap ∧ s'.os = s₁.os ∧ AllBare s'.gens) s₁ by
    cases hka : K.lookup a with
    | some ob =>
      have eo : ob = { cls := .type "list", data := .seq vs.toArray } := Option.some.inj ((KX a ob hka).symm.trans ha)
      subst eo
      exact core (fun _ => none) (fun _ => .inl rfl) (.inr ⟨_, vs.toArray, _, hka, rfl, rfl, rfl, by rw [List.size_toArray, lenV]; exact hline, by simpa using rv⟩) (fun _ _ z => by cases z) (fun _ z => absurd rfl z) fun z => absurd rfl z
    | none =>
      have at_a : ∀ {c : Addr} {u : HO}, (if c = a then some (HO.frz { cls := .type "list", data := .seq vs.toArray } (.lst (ns.map V.int))) else none) = some u → c = a ∧ u = .frz { cls := .type "list", data := .seq vs.toArray } (.lst (ns.map V.int)) := fun {c u} z => by
        by_cases hc : c = a
        · rw [if_pos hc] at z; exact ⟨hc, (Option.some.inj z).symm⟩
        · rw [if_neg hc] at z; cases z
      refine core (fun c => if c = a then some (.frz { cls := .type "list", data := .seq vs.toArray } (.lst (ns.map V.int))) else none) (fun c => ?_) (.inl (.inr ⟨_, if_pos rfl⟩)) (fun c u z => ?_) (fun c z => ?_) fun _ => hka
      · by_cases hc : c = a
        · exact .inr ⟨_, _, if_pos hc⟩
        · exact .inl (if_neg hc)
      · obtain ⟨e1, e2⟩ := at_a z
        subst e1 e2
        exact ⟨ha, by rw [List.length_map]; exact hline, vs, _, rv, ha⟩
      · by_cases hc : c = a
        · exact hc
        · exact absurd (if_neg hc) z
  intro H hO hS hok hA hK
  have onlyA : ∀ {c : Addr} {o : Obj} {u : HO}, s₁.heap.get? c = some o → H c = some u → o = { cls := .type "list", data := .seq vs.toArray } := fun {c o u} e q => by
    have ec := hA c (by rw [q]; simp)
    subst ec
    exact Option.some.inj (e.symm.trans ha)
  have dicts : ∀ {c : Addr} {o : Obj} {es : Array DictEntry} {ep : Nat}, s₁.heap.get? c = some o → o.data = .dict es ep → H c = none := fun {c o es ep} e d => by
    cases q : H c with
    | none => rfl
    | some u => rw [onlyA e q] at d; cases d
  have nsK : ∀ {c : Addr} {m : Str → Option Value}, s₁.heap.Ns c m → (hidT s₁.heap H).Ns c m := fun ⟨o, es, ep, e, d, r⟩ => ⟨o, es, ep, hidT_get e (dicts e d), d, r⟩
  have hKb : K.In (hidT s₁.heap H) := fun c o e => hidT_get (KX c o e) (by
    cases q : H c with
    | none => rfl
    | some u =>
      have ec := hA c (by rw [q]; simp)
      subst ec
      rw [hK (by rw [q]; simp)] at e
      cases e)
  have hM : Mod K mg (hidT s₁.heap H) := ⟨hKb, nsK hns, ⟨mb, nsK hb, hbb⟩, by obtain ⟨mc, h1, h2⟩ := hlim; exact ⟨mc, nsK h1, h2⟩⟩
  have e0 : Env0 P w K mg (hidT s₁.heap H) callerA [] s₁ H := ⟨rfl, hM, fun _ _ e => of_hidT e, Nat.le_of_eq (hidT_size _ _), trivial, fun c hc => absurd (show c ∈ ([] : List Addr) from hc) (by simp), hok, .of_eq hg⟩
  have hsp : spD K mg 1 F [.ref a] H (fun v _ => v = .bl true) (fun _ _ _ => False) :=
    ⟨H, fun _ => none, [.scr ns], fun _ _ _ => False, fun d _ => d = .bl true, ⟨Same.refl _, fun _ _ z => by cases z⟩, .cons (.scr hS) .nil, rfl, hF ns hl, fun G' H' v r μ' _ _ A q => by subst q; cases A; rfl, fun _ _ _ _ _ _ _ _ _ _ z => z⟩
  refine codeAny_mono ((Fn _ hKb (nsK hns)).run callerA [] s₁ H ⟨[.ref a], []⟩ [.ref a] [.ref a] _ _ (room_caller hk) e0 (hbind s₁ (.ref a)) (.cons rfl .nil) hsp) fun r s' h => ?_
  cases r with
  | error e => obtain ⟨_, _, _, _, _, _, _, _, _, _, _, _, z⟩ := h; exact z.elim
  | ok fl =>
    cases fl with
    | next => exact False.elim h
    | brk => exact False.elim h
    | cont => exact False.elim h
    | ret u =>
      obtain ⟨v, H', os, bare, un, hok', r', q⟩ := h
      obtain rfl : v = V.bl true := q
      obtain rfl : u = Value.bool true := r'
      refine ⟨rfl, OldK.of_keep fun c o e => ?_, os, bare⟩
      cases q : H c with
      | none => exact un.keep c o e q (by intro z; exact absurd (show c ∈ ([] : List Addr) from z) (by simp)) (by simp)
      | some u =>
        rcases hO c with z | ⟨ob, xs, z⟩
        · rw [q] at z; cases z
        · have e1 := (show ObjOk P w H s₁.heap c (.frz ob (.lst xs)) from hok c _ z).1
          have e2 := (show ObjOk P w H' s'.heap c (.frz ob (.lst xs)) from hok' c _ (un.frzs c ob _ z)).1
          have e3 : o = ob := Option.some.inj (e.symm.trans e1)
          rw [e3]
          exact e2
theorem walkD {l : PySem.W.OpenLaw} {n k : Nat} {q : Program} {loose : List Str} {XP : (Str → Option Value) → Heap → Prop} {YP : World → Heap → Prop} {d : DefRec} {K : Params → PySem.W.Frag} {F : DF} {x : Str}
    (hn : l.most = some n) (hn2 : n ≤ 1000) (hk : k ≤ 600) (hdf : d.params.defaults = [])
    (hY : ∀ (w : World) (h : Heap), YP w h → (K w.params).In h) (hF : LawD n F)
    (Fn : ∀ (w : World) (mg : Str → Option Value) (fa : Addr) (h : Heap), (K w.params).In h → h.Ns mainGlobals mg → mg d.name = some (.ref fa) →
      ∃ fd : FuncData, (∀ (s : Shared) (u : Value), BindsTo s fd ⟨[u], []⟩ [(x, u)]) ∧ ∀ base : Heap, (K w.params).In base → base.Ns mainGlobals mg → FnD l.prog w (K w.params) mg base k fa fd [x] F) :
    PySem.W.WalkO q loose XP YP l.row.toRowW d [] (fun f vs => PySem.call f vs) := by
  refine Att.attach_call hn hdf fun w s₀ s₁ mg mb fa o pm cd doc a vs ns G Y ho hd hcd hmg hobj hints hlen hg => ?_
  have KX := hY w _ Y
  obtain ⟨fd, hb, hFn⟩ := Fn w mg fa _ KX G.T.g hmg
  exact lawD KX G.T.g G.T.b G.T.builtins G.T.nolimit hg hobj hints hlen hn2 hk hFn hb hF
end Once

namespace Once
open PySem PySem.Spec PyProof.Rows L2
/-! ### the operators on data, case by case -/
section
variable {μ : Mu} {k : DK} {i j : Int} {a b : Str} {xs ys : List D} {d e : D}
theorem gAdd_ii : gAdd (.int i) (.int j) μ k = k (.int (i + j)) μ := rfl
theorem gAdd_ss : gAdd (.str a) (.str b) μ k = (a.length + b.length ≤ sizeLine ∧ k (.str (a ++ b)) μ) := rfl
theorem gAdd_ll : gAdd (.lst xs) (.lst ys) μ k = (xs.length + ys.length ≤ sizeLine ∧ k (.lst (xs ++ ys)) μ) := by
  show (isScr (.lst xs) = false ∧ isScr (.lst ys) = false ∧ ∃ xs' ys', seqOf μ (.lst xs) = some xs' ∧ seqOf μ (.lst ys) = some ys' ∧ xs'.length + ys'.length ≤ sizeLine ∧ k (.lst (xs' ++ ys')) μ) = _
  simp [isScr, seqOf]
theorem gSub_ii : gSub (.int i) (.int j) μ k = k (.int (i - j)) μ := rfl
theorem gMul_ii : gMul (.int i) (.int j) μ k = (CMul i j ∧ k (.int (i * j)) μ) := rfl
theorem gDiv_ii : gDiv (.int i) (.int j) μ k = (CDiv i j ∧ k (.int (i / j)) μ) := rfl
theorem gMod_ii : gMod (.int i) (.int j) μ k = (0 < j ∧ k (.int (i % j)) μ) := rfl
theorem gPow_ii : gPow (.int i) (.int j) μ k = (CPow i j ∧ k (.int (i ^ j.toNat)) μ) := rfl
theorem gInt0_ii {g : Int → Int → D} : gInt0 g (.int i) (.int j) μ k = k (g i j) μ := rfl
theorem gLt_ii : gLt (.int i) (.int j) μ k = k (.bl (decide (i < j))) μ := rfl
theorem gLe_ii : gLe (.int i) (.int j) μ k = k (.bl (decide (i ≤ j))) μ := rfl
theorem gGt_ii : gGt (.int i) (.int j) μ k = k (.bl (decide (j < i))) μ := rfl
theorem gGe_ii : gGe (.int i) (.int j) μ k = k (.bl (decide (j ≤ i))) μ := rfl
theorem eqD_ii : eqD (.int i) (.int j) = (i == j) := by simp only [eqD, toPy, PyData.eqv]
theorem eqD_ss : eqD (.str a) (.str b) = (a == b) := by simp only [eqD, toPy, PyData.eqv]
theorem eqD_bb {p q : Bool} : eqD (.bl p) (.bl q) = (p == q) := by simp only [eqD, toPy, PyData.eqv]
theorem gEq_ii : gEq (.int i) (.int j) μ k = k (.bl (i == j)) μ := by simp [gEq, okD, deepD, eqD_ii]
theorem gEq_ss : gEq (.str a) (.str b) μ k = k (.bl (a == b)) μ := by simp [gEq, okD, deepD, eqD_ss]
theorem gEq_bb {p q : Bool} : gEq (.bl p) (.bl q) μ k = k (.bl (p == q)) μ := by simp [gEq, okD, deepD, eqD_bb]
theorem gNe_ii : gNe (.int i) (.int j) μ k = k (.bl (!(i == j))) μ := by simp [gNe, okD, deepD, eqD_ii]
theorem gNe_ss : gNe (.str a) (.str b) μ k = k (.bl (!(a == b))) μ := by simp [gNe, okD, deepD, eqD_ss]
theorem gNe_bb {p q : Bool} : gNe (.bl p) (.bl q) μ k = k (.bl (!(p == q))) μ := by simp [gNe, okD, deepD, eqD_bb]
theorem gIx_t : gIx (.tup xs) (.int i) μ k = ∃ v, atI xs i = some v ∧ k v μ := rfl
theorem gIx_s : gIx (.str a) (.int i) μ k = (a.length ≤ sizeLine ∧ ∃ c, atI a.cps.toList i = some c ∧ k (.str ⟨#[c]⟩) μ) := rfl
theorem gIx_l : gIx (.lst xs) (.int i) μ k = ∃ v, atI xs i = some v ∧ k v μ := by
  show (∃ xs' v, seqOf μ (.lst xs) = some xs' ∧ atI xs' i = some v ∧ k v μ) = _
  simp [seqOf]
theorem gIx_m {r : Addr} (h : μ r = some (.lst xs)) : gIx (.mref r) (.int i) μ k = ∃ v, atI xs i = some v ∧ k v μ := by
  show (∃ xs' v, seqOf μ (.mref r) = some xs' ∧ atI xs' i = some v ∧ k v μ) = _
  simp [seqOf, h]
theorem atI_0 {α : Type} {x : α} {l : List α} : atI (x :: l) 0 = some x := atI_nat (j := 0) rfl
theorem atI_1 {α : Type} {x y : α} {l : List α} : atI (x :: y :: l) 1 = some y := atI_nat (j := 1) rfl
theorem atI_2 {α : Type} {x y z : α} {l : List α} : atI (x :: y :: z :: l) 2 = some z := atI_nat (j := 2) rfl
theorem atI_3 {α : Type} {x y z u : α} {l : List α} : atI (x :: y :: z :: u :: l) 3 = some u := atI_nat (j := 3) rfl
theorem gLen_s : gLen [.str a] μ k = (a.length ≤ sizeLine ∧ k (.int a.length) μ) := rfl
theorem gLen_t : gLen [.tup xs] μ k = k (.int xs.length) μ := rfl
theorem gLen_l : gLen [.lst xs] μ k = k (.int xs.length) μ := by
  show (∃ xs', seqOf μ (.lst xs) = some xs' ∧ k (.int xs'.length) μ) = _
  simp [seqOf]
theorem gLen_m {r : Addr} (h : μ r = some (.lst xs)) : gLen [.mref r] μ k = k (.int xs.length) μ := by
  show (∃ xs', seqOf μ (.mref r) = some xs' ∧ k (.int xs'.length) μ) = _
  simp [seqOf, h]
theorem gCut_l {lo hi : Option Int} : gCut (.lst xs) lo hi μ k = k (.lst (cutD xs lo hi)) μ := by
  show (∃ xs', seqOf μ (.lst xs) = some xs' ∧ k (.lst (cutD xs' lo hi)) μ) = _
  simp [seqOf]
theorem gCut_s {lo hi : Option Int} : gCut (.str a) lo hi μ k = (a.length ≤ sizeLine ∧ k (.str (cutS a lo hi)) μ) := rfl
theorem gAbs_i : gAbs [.int i] μ k = k (.int (if i < 0 then -i else i)) μ := rfl
theorem gIntOf_i : gIntOf [.int i] μ k = k (.int i) μ := rfl
theorem gRepr_d : gRepr [d] μ k = (okD d = true ∧ (toPy d).showable = true ∧ deepD d ≤ 800 ∧ (reprD d).length ≤ sizeLine ∧ k (.str (reprD d)) μ) := rfl
theorem gIn_s {c : Nat} : gIn (.str ⟨#[c]⟩) (.str a) μ k = k (.bl (decide (c ∈ a.cps.toList))) μ := by
  show (∃ c', (⟨#[c]⟩ : Str) = ⟨#[c']⟩ ∧ k (.bl (decide (c' ∈ a.cps.toList))) μ) = _
  simp
theorem gNotIn_s {c : Nat} : gNotIn (.str ⟨#[c]⟩) (.str a) μ k = k (.bl (!decide (c ∈ a.cps.toList))) μ := by
  show (∃ c', (⟨#[c]⟩ : Str) = ⟨#[c']⟩ ∧ k (.bl (!decide (c' ∈ a.cps.toList))) μ) = _
  simp
theorem gIn_l (h : ∀ e, d = .str e → True) : gIn d (.lst xs) μ k = (okD d = true ∧ okDs xs = true ∧ min (deepDs xs) (deepD d) ≤ 800 ∧ k (.bl (anyD d xs)) μ) := by
  cases d <;> (show (∃ xs', seqOf μ (.lst xs) = some xs' ∧ _) = _) <;> simp [seqOf]
end
theorem gdTup_t {n : Nat} {g : DGs} {xs : List D} {δ : Ds} {μ : Mu} {k : Ds → Mu → Prop} : gdTup n g (.tup xs) δ μ k = (xs.length = n ∧ g xs δ μ k) := by
  show (∃ xs', D.tup xs = .tup xs' ∧ xs'.length = n ∧ g xs' δ μ k) = _
  simp
theorem gdCons_c {g : DG} {r : DGs} {d : D} {ds : List D} {δ : Ds} {μ : Mu} {k : Ds → Mu → Prop} : gdCons g r (d :: ds) δ μ k = g d δ μ fun δ1 μ1 => r ds δ1 μ1 k := by
  show (∃ d' dr, d :: ds = d' :: dr ∧ g d' δ μ fun δ1 μ1 => r dr δ1 μ1 k) = _
  apply propext
  constructor
  · rintro ⟨d', dr, e, h⟩; cases e; exact h
  · exact fun h => ⟨d, ds, rfl, h⟩
theorem gdNil_n {δ : Ds} {μ : Mu} {k : Ds → Mu → Prop} : gdNil [] δ μ k = k δ μ := by
  show (([] : List D) = [] ∧ k δ μ) = _
  simp
/-! ### texts by their signs -/
def tx (l : List Nat) : Str := ⟨l.toArray⟩
theorem tx_cps (l : List Nat) : (tx l).cps.toList = l := by simp [tx]
theorem tx_len (l : List Nat) : (tx l).length = l.length := by show (l.toArray).size = _; simp
theorem tx_app (a b : List Nat) : tx a ++ tx b = tx (a ++ b) := by
  show (⟨(tx a).cps ++ (tx b).cps⟩ : Str) = _
  simp [tx]
theorem tx_one (c : Nat) : (⟨#[c]⟩ : Str) = tx [c] := rfl
theorem tx_beq (a b : List Nat) : (tx a == tx b) = decide (a = b) := by
  by_cases h : a = b
  · subst h; simp
  · have : ¬ tx a = tx b := fun e => h (by have := congrArg (fun s : Str => s.cps.toList) e; simpa [tx] using this)
    simp [h, this]
theorem atI_tx {a : List Nat} {i : Nat} {c : Nat} (h : a[i]? = some c) : atI (tx a).cps.toList (i : Int) = some c := by rw [tx_cps]; exact atI_nat h
theorem line_big : 16777216 ≤ sizeLine := by rw [sizeLine_eq]; decide
/-! ### == of equal data -/
mutual
theorem eqD_self : ∀ d : D, okD d = true → eqD d d = true
  | .non, _ => by simp [eqD, toPy, PyData.eqv]
  | .bl b, _ => by simp [eqD, toPy, PyData.eqv]
  | .int i, _ => by simp [eqD, toPy, PyData.eqv]
  | .str x, _ => by simp [eqD, toPy, PyData.eqv]
  | .lst xs, h => by have := eqDs_self xs (by simpa [okD] using h); simpa [eqD, toPy, PyData.eqv] using this
  | .tup xs, h => by have := eqDs_self xs (by simpa [okD] using h); simpa [eqD, toPy, PyData.eqv] using this
  | .scr ns, _ => by
    have : ∀ ns : List Int, PyData.eqvAll (ns.map PyData.int) (ns.map PyData.int) = true := fun ns => by
      induction ns with
      | nil => simp [PyData.eqvAll]
      | cons n r ih => simp [PyData.eqvAll, PyData.eqv, ih]
    simpa [eqD, toPy, PyData.eqv] using this ns
  | .mref _, h => by simp [okD] at h
  | .exc _ _ _ _ _, h => by simp [okD] at h
theorem eqDs_self : ∀ ds : List D, okDs ds = true → PyData.eqvAll (toPys ds) (toPys ds) = true
  | [], _ => by simp [toPys, PyData.eqvAll]
  | x :: xs, h => by
    have h' : okD x = true ∧ okDs xs = true := by simpa [okDs] using h
    have h1 := eqD_self x h'.1
    have h2 := eqDs_self xs h'.2
    simp only [eqD] at h1
    simp [toPys, PyData.eqvAll, h1, h2]
end
end Once

namespace Once
open PySem PySem.Spec PyProof.Rows L2
/-! ## The text, by places -/
def top (i : Nat) : Stmt := PySem.Challenge.pw_oncelinks_k52_whole_codes_as_text.main.body.getD i (.Pass ⟨0, 0, 0, 0⟩)
abbrev s_is_use : Stmt := top 6
abbrev s_count_joiners : Stmt := top 7
abbrev s_text_of_code : Stmt := top 8
abbrev s_taken : Stmt := top 9
abbrev s_code_from : Stmt := top 10
abbrev s_code_of_text : Stmt := top 11
abbrev s__law_feed : Stmt := top 13
abbrev s__law_draw : Stmt := top 14
abbrev s__law_is_whole : Stmt := top 15
abbrev s__law_some_code : Stmt := top 16
abbrev s__law_code_text : Stmt := top 17
abbrev s__law_told : Stmt := top 18
abbrev s__law_due : Stmt := top 19
abbrev s__law_bent : Stmt := top 20
abbrev s__law_long : Stmt := top 21
abbrev s_law : Stmt := top 22
abbrev s_BadText_init : Stmt := inClass (top 2) 0
abbrev s_BadBytes_init : Stmt := inClass (top 3) 0
abbrev N_is_use : List Str := ["code"]
theorem sc_is_use : FnScope N_is_use ["code"] (defScope s_is_use) := ⟨rfl, rfl, rfl, by decide +kernel, rfl, by decide +kernel, by decide +kernel⟩
abbrev N_count_joiners : List Str := ["code"]
theorem sc_count_joiners : FnScope N_count_joiners ["code"] (defScope s_count_joiners) := ⟨rfl, rfl, rfl, by decide +kernel, rfl, by decide +kernel, by decide +kernel⟩
abbrev N_text_of_code : List Str := ["code"]
theorem sc_text_of_code : FnScope N_text_of_code ["code"] (defScope s_text_of_code) := ⟨rfl, rfl, rfl, by decide +kernel, rfl, by decide +kernel, by decide +kernel⟩
abbrev N_taken : List Str := ["text", "at", "allowed"]
theorem sc_taken : FnScope N_taken ["text", "at", "allowed"] (defScope s_taken) := ⟨rfl, rfl, rfl, by decide +kernel, rfl, by decide +kernel, by decide +kernel⟩
abbrev N_code_from : List Str := ["text", "at", "f", "after", "x", "last"]
theorem sc_code_from : FnScope N_code_from ["text", "at"] (defScope s_code_from) := ⟨rfl, rfl, rfl, by decide +kernel, rfl, by decide +kernel, by decide +kernel⟩
abbrev N_code_of_text : List Str := ["text", "code", "after"]
theorem sc_code_of_text : FnScope N_code_of_text ["text"] (defScope s_code_of_text) := ⟨rfl, rfl, rfl, by decide +kernel, rfl, by decide +kernel, by decide +kernel⟩
abbrev N__law_feed : List Str := ["script"]
theorem sc__law_feed : FnScope N__law_feed ["script"] (defScope s__law_feed) := ⟨rfl, rfl, rfl, by decide +kernel, rfl, by decide +kernel, by decide +kernel⟩
abbrev N__law_draw : List Str := ["feed", "many", "mixed", "cell", "told"]
theorem sc__law_draw : FnScope N__law_draw ["feed", "many"] (defScope s__law_draw) := ⟨rfl, rfl, rfl, by decide +kernel, rfl, by decide +kernel, by decide +kernel⟩
abbrev N__law_is_whole : List Str := ["x"]
theorem sc__law_is_whole : FnScope N__law_is_whole ["x"] (defScope s__law_is_whole) := ⟨rfl, rfl, rfl, by decide +kernel, rfl, by decide +kernel, by decide +kernel⟩
abbrev N__law_some_code : List Str := ["feed", "most", "pieces", "step", "k", "at"]
theorem sc__law_some_code : FnScope N__law_some_code ["feed", "most"] (defScope s__law_some_code) := ⟨rfl, rfl, rfl, by decide +kernel, rfl, by decide +kernel, by decide +kernel⟩
abbrev N__law_code_text : List Str := ["code"]
theorem sc__law_code_text : FnScope N__law_code_text ["code"] (defScope s__law_code_text) := ⟨rfl, rfl, rfl, by decide +kernel, rfl, by decide +kernel, by decide +kernel⟩
abbrev N__law_told : List Str := ["text", "e", "told"]
theorem sc__law_told : FnScope N__law_told ["text"] (defScope s__law_told) := ⟨rfl, rfl, rfl, by decide +kernel, rfl, by decide +kernel, by decide +kernel⟩
abbrev N__law_due : List Str := ["text", "heaps", "done", "at", "sign", "own", "pair", "x"]
theorem sc__law_due : FnScope N__law_due ["text"] (defScope s__law_due) := ⟨rfl, rfl, rfl, by decide +kernel, rfl, by decide +kernel, by decide +kernel⟩
abbrev N__law_bent : List Str := ["feed", "text", "found", "step", "at", "sign"]
theorem sc__law_bent : FnScope N__law_bent ["feed", "text"] (defScope s__law_bent) := ⟨rfl, rfl, rfl, by decide +kernel, rfl, by decide +kernel, by decide +kernel⟩
abbrev N__law_long : List Str := ["feed", "many", "code", "k", "own"]
theorem sc__law_long : FnScope N__law_long ["feed", "many"] (defScope s__law_long) := ⟨rfl, rfl, rfl, by decide +kernel, rfl, by decide +kernel, by decide +kernel⟩
abbrev N_law : List Str := ["script", "feed", "turn", "many", "text", "code", "paper", "k"]
theorem sc_law : FnScope N_law ["script"] (defScope s_law) := ⟨rfl, rfl, rfl, by decide +kernel, rfl, by decide +kernel, by decide +kernel⟩
/-! ## What each def does, over data -/
def sub_BadText (c : Str) : Option Bool := if c = "BadText" then some true else none
theorem sub_BadText_is {c : Str} (h : sub_BadText c = some true) : c = "BadText" := by
  unfold sub_BadText at h; split at h
  · assumption
  · cases h
abbrev noF : DF := fun _ _ _ _ => False
def b__law_is_whole (W : Nat → DF) : DS :=
  (dRet (dAndV (dIsi isInt (dVar 0)) (dNotV (dIsi isBool (dVar 0)))))
def b_is_use (W : Nat → DF) : DS :=
  (dRet (dIsi isTup (dVar 0)))
def b_count_joiners (W : Nat → DF) : DS :=
  (dSeq (dIf (dB (dCall (W 0) (dCons (dVar 0) dNil))) (dRet (dOp gAdd (dCall (W 1) (dCons (dOp gIx (dVar 0) (dC (.int 0))) dNil)) (dCall (W 1) (dCons (dOp gIx (dVar 0) (dC (.int 1))) dNil)))) dNext)
      (dRet (dC (.int 1))))
def b_text_of_code (W : Nat → DF) : DS :=
  (dSeq (dIf (dB (dCall (W 0) (dCons (dVar 0) dNil))) (dRet (dOp gAdd (dOp gAdd (dOp gAdd (dC (.str "(")) (dCall (W 2) (dCons (dOp gIx (dVar 0) (dC (.int 0))) dNil))) (dCall (W 2) (dCons (dOp gIx (dVar 0) (dC (.int 1))) dNil))) (dC (.str ")")))) dNext)
      (dRet (dVar 0)))
def b_taken (W : Nat → DF) : DS :=
  (dSeq (dIf (dOr (dB (dOp gEq (dVar 1) (dB1 gLen (dCons (dVar 0) dNil)))) (dB (dOp gNotIn (dOp gIx (dVar 0) (dVar 1)) (dVar 2)))) (dRaise1 "BadText" "at" (dVar 1)) dNext)
      (dRet (dOp gIx (dVar 0) (dVar 1))))
def b_code_from (W : Nat → DF) : DS :=
  (dSeq (dIf (dB (dOp gNe (dCall (W 3) (dCons (dVar 0) (dCons (dVar 1) (dCons (dC (.str "(BCI")) dNil)))) (dC (.str "(")))) (dRet (dTup (dCons (dOp gIx (dVar 0) (dVar 1)) (dCons (dOp gAdd (dVar 1) (dC (.int 1))) dNil)))) dNext)
      (dSeq (dUnp 2 (dCall (W 4) (dCons (dVar 0) (dCons (dOp gAdd (dVar 1) (dC (.int 1))) dNil))) (gdCons (gdName 2) (gdCons (gdName 3) gdNil)))
      (dSeq (dUnp 2 (dCall (W 4) (dCons (dVar 0) (dCons (dVar 3) dNil))) (gdCons (gdName 4) (gdCons (gdName 5) gdNil)))
      (dSeq (dDrop (dCall (W 3) (dCons (dVar 0) (dCons (dVar 5) (dCons (dC (.str ")")) dNil)))))
      (dRet (dTup (dCons (dTup (dCons (dVar 2) (dCons (dVar 4) dNil))) (dCons (dOp gAdd (dVar 5) (dC (.int 1))) dNil))))))))
def b_code_of_text (W : Nat → DF) : DS :=
  (dSeq (dUnp 2 (dCall (W 4) (dCons (dVar 0) (dCons (dC (.int 0)) dNil))) (gdCons (gdName 1) (gdCons (gdName 2) gdNil)))
      (dSeq (dIf (dB (dOp gLt (dVar 2) (dB1 gLen (dCons (dVar 0) dNil)))) (dRaise1 "BadText" "at" (dVar 2)) dNext)
      (dSeq (dIf (dB (dOp gGt (dCall (W 1) (dCons (dVar 1) dNil)) (dC (.int 120)))) (dRaise1 "BadText" "at" (dB1 gLen (dCons (dVar 0) dNil))) dNext)
      (dRet (dVar 1)))))
def b__law_feed (W : Nat → DF) : DS :=
  (dRet (dNew (dCons (dB1 gList (dCons (dVar 0) dNil)) (dCons (dC (.int 0)) (dCons (dC (.int 0)) (dCons (dC (.int 1)) dNil))))))
def b__law_draw (W : Nat → DF) : DS :=
  (dSeq (dIf (dAnd (dB (dOp gEq (dOp gIx (dVar 0) (dC (.int 2))) (dC (.int 0)))) (dB (dOp gLt (dOp gIx (dVar 0) (dC (.int 1))) (dB1 gLen (dCons (dOp gIx (dVar 0) (dC (.int 0))) dNil))))) (dSeq (dSet 3 (dB1 gAbs (dCons (dB1 gIntOf (dCons (dOp gIx (dOp gIx (dVar 0) (dC (.int 0))) (dOp gIx (dVar 0) (dC (.int 1)))) dNil)) dNil)))
      (dSeq (dAugAt (gInt0 fun i j => .int (i + j)) (dVar 0) (dC (.int 1)) (dC (.int 1)))
      (dIf (dB (dOp gGe (dVar 3) (dOp gPow (dC (.int 10)) (dC (.int 18))))) (dSetAt (dVar 3) (dVar 0) (dC (.int 2))) (dSetAt (dOp gMod (dB1 gIntOf (dCons (dOp gAdd (dOp gAdd (dOp gMul (dOp gIx (dVar 0) (dC (.int 3))) (dC (.int 48271))) (dOp gMul (dVar 3) (dC (.int 69621)))) (dOp gIx (dVar 0) (dC (.int 1)))) dNil)) (dC (.int 2147483647))) (dVar 0) (dC (.int 3)))))) dNext)
      (dSeq (dIf (dB (dOp gGt (dOp gIx (dVar 0) (dC (.int 2))) (dC (.int 0)))) (dSeq (dSet 4 (dOp gMod (dB1 gIntOf (dCons (dOp gIx (dVar 0) (dC (.int 2))) dNil)) (dVar 1)))
      (dSeq (dSetAt (dOp gDiv (dOp gIx (dVar 0) (dC (.int 2))) (dVar 1)) (dVar 0) (dC (.int 2)))
      (dRet (dVar 4)))) dNext)
      (dSeq (dSetAt (dOp gMod (dB1 gIntOf (dCons (dOp gAdd (dOp gMul (dOp gIx (dVar 0) (dC (.int 3))) (dC (.int 16807))) (dC (.int 12345))) dNil)) (dC (.int 2147483647))) (dVar 0) (dC (.int 3)))
      (dSeq (dSet 2 (dOp gMod (dB1 gIntOf (dCons (dOp gAdd (dOp gMul (dOp gIx (dVar 0) (dC (.int 3))) (dOp gIx (dVar 0) (dC (.int 3)))) (dOp gIx (dVar 0) (dC (.int 3)))) dNil)) (dC (.int 2147483629))))
      (dRet (dOp gMod (dOp gDiv (dVar 2) (dC (.int 11))) (dVar 1)))))))
def b__law_some_code (W : Nat → DF) : DS :=
  (dSeq (dSet 2 (dComp (dRng1 (dCons (dOp gAdd (dC (.int 1)) (dCall (W 7) (dCons (dVar 0) (dCons (dVar 1) dNil)))) dNil)) 4 dYes (dOp gIx (dLst (dCons (dC (.str "B")) (dCons (dC (.str "C")) (dCons (dC (.str "I")) (dCons (dC (.str "B")) dNil))))) (dCall (W 7) (dCons (dVar 0) (dCons (dC (.int 4)) dNil))))))
      (dSeq (dFor (dRng1 (dCons (dVar 1) dNil)) (gdName 3) (dIf (dB (dOp gGt (dB1 gLen (dCons (dVar 2) dNil)) (dC (.int 1)))) (dSeq (dSet 5 (dCall (W 7) (dCons (dVar 0) (dCons (dOp gSub (dB1 gLen (dCons (dVar 2) dNil)) (dC (.int 1))) dNil))))
      (dSeq (dIf (dB (dOp gEq (dCall (W 7) (dCons (dVar 0) (dCons (dC (.int 2)) dNil))) (dC (.int 0)))) (dSet 5 (dC (.int 0))) dNext)
      (dSet 2 (dOp gAdd (dOp gAdd (dCut (dVar 2) dNoPart (dPart (dVar 5))) (dLst (dCons (dTup (dCons (dOp gIx (dVar 2) (dVar 5)) (dCons (dOp gIx (dVar 2) (dOp gAdd (dVar 5) (dC (.int 1)))) dNil))) dNil))) (dCut (dVar 2) (dPart (dOp gAdd (dVar 5) (dC (.int 2)))) dNoPart))))) dNext))
      (dRet (dOp gIx (dVar 2) (dC (.int 0))))))
def b__law_code_text (W : Nat → DF) : DS :=
  (dSeq (dIf (dB (dIsi isStr (dVar 0))) (dRet (dVar 0)) dNext)
      (dRet (dOp gAdd (dOp gAdd (dOp gAdd (dC (.str "(")) (dCall (W 10) (dCons (dOp gIx (dVar 0) (dC (.int 0))) dNil))) (dCall (W 10) (dCons (dOp gIx (dVar 0) (dC (.int 1))) dNil))) (dC (.str ")")))))
def b__law_told (W : Nat → DF) : DS :=
  (dSeq (dTry 1 (dSet 2 (dCall (W 5) (dCons (dVar 0) dNil))) sub_BadText (fun _ a dd => (dSeq (dIf (dOr (dNot (dB (dIsE a "BadText" dd true (dVar 1)))) (dOr (dB (dIsE a "BadText" dd false (dVar 1))) (dNot (dB (dCall (bodyF 1 (b__law_is_whole fun _ => noF)) (dCons (dXf a "BadText" dd "at" (dVar 1)) dNil)))))) (dRet (dTup (dCons (dC (.str "error")) (dCons (dC (.int 0)) dNil)))) dNext)
      (dRet (dTup (dCons (dC (.str "bad")) (dCons (dXf a "BadText" dd "at" (dVar 1)) dNil)))))))
      (dRet (dTup (dCons (dC (.str "code")) (dCons (dVar 2) dNil)))))
def b__law_due (W : Nat → DF) : DS :=
  (dSeq (dSet 1 (dNew dNil))
      (dSeq (dSet 2 (dC .non))
      (dSeq (dFor (dRng1 (dCons (dB1 gLen (dCons (dVar 0) dNil)) dNil)) (gdName 3) (dSeq (dSet 4 (dOp gIx (dVar 0) (dVar 3)))
      (dSeq (dSet 5 (dC .non))
      (dSeq (dIf (dB (dNotN (dVar 2))) (dRet (dTup (dCons (dC (.str "bad")) (dCons (dVar 3) dNil)))) dNext)
      (dSeq (dIf (dAnd (dB (dOp gEq (dVar 4) (dC (.str "(")))) (dOr (dB (dOp gEq (dB1 gLen (dCons (dVar 1) dNil)) (dC (.int 0)))) (dB (dOp gLt (dB1 gLen (dCons (dOp gIx (dVar 1) (dNeg (dC (.int 1)))) dNil)) (dC (.int 2)))))) (dDrop (dApp (dVar 1) (dNew dNil))) (dIf (dAnd (dB (dOp gIn (dVar 4) (dLst (dCons (dC (.str "B")) (dCons (dC (.str "C")) (dCons (dC (.str "I")) dNil)))))) (dOr (dB (dOp gEq (dB1 gLen (dCons (dVar 1) dNil)) (dC (.int 0)))) (dB (dOp gLt (dB1 gLen (dCons (dOp gIx (dVar 1) (dNeg (dC (.int 1)))) dNil)) (dC (.int 2)))))) (dSet 5 (dVar 4)) (dIf (dAnd (dB (dOp gEq (dVar 4) (dC (.str ")")))) (dAnd (dB (dOp gGt (dB1 gLen (dCons (dVar 1) dNil)) (dC (.int 0)))) (dB (dOp gEq (dB1 gLen (dCons (dOp gIx (dVar 1) (dNeg (dC (.int 1)))) dNil)) (dC (.int 2)))))) (dSeq (dSet 6 (dPop (dVar 1)))
      (dSet 5 (dTup (dCons (dOp gIx (dVar 6) (dC (.int 0))) (dCons (dOp gIx (dVar 6) (dC (.int 1))) dNil))))) (dRet (dTup (dCons (dC (.str "bad")) (dCons (dVar 3) dNil)))))))
      (dIf (dAnd (dB (dNotN (dVar 5))) (dB (dOp gEq (dB1 gLen (dCons (dVar 1) dNil)) (dC (.int 0))))) (dSet 2 (dVar 5)) (dIf (dB (dNotN (dVar 5))) (dDrop (dApp (dOp gIx (dVar 1) (dNeg (dC (.int 1)))) (dVar 5))) dNext)))))))
      (dSeq (dIf (dOr (dB (dIsN (dVar 2))) (dB (dOp gGt (dB1 gLen (dCons (dComp (dIterS (dVar 0)) 7 (dB (dOp gIn (dVar 7) (dC (.str "BCI")))) (dVar 7)) dNil)) (dC (.int 120))))) (dRet (dTup (dCons (dC (.str "bad")) (dCons (dB1 gLen (dCons (dVar 0) dNil)) dNil)))) dNext)
      (dRet (dTup (dCons (dC (.str "code")) (dCons (dVar 2) dNil))))))))
def b__law_bent (W : Nat → DF) : DS :=
  (dSeq (dSet 2 (dLst (dCons (dOp gAdd (dVar 1) (dC (.str "B"))) (dCons (dOp gAdd (dVar 1) (dC (.str ")"))) (dCons (dOp gAdd (dC (.str "(")) (dVar 1)) (dCons (dC (.str "")) (dCons (dOp gAdd (dVar 1) (dVar 1)) dNil)))))))
      (dSeq (dFor (dRng1 (dCons (dC (.int 4)) dNil)) (gdName 3) (dSeq (dSet 4 (dCall (W 7) (dCons (dVar 0) (dCons (dB1 gLen (dCons (dVar 1) dNil)) dNil))))
      (dSeq (dSet 5 (dOp gIx (dC (.str "(BCI) x")) (dCall (W 7) (dCons (dVar 0) (dCons (dC (.int 7)) dNil)))))
      (dSet 2 (dOp gAdd (dVar 2) (dLst (dCons (dCut (dVar 1) dNoPart (dPart (dVar 4))) (dCons (dOp gAdd (dCut (dVar 1) dNoPart (dPart (dVar 4))) (dCut (dVar 1) (dPart (dOp gAdd (dVar 4) (dC (.int 1)))) dNoPart)) (dCons (dOp gAdd (dOp gAdd (dCut (dVar 1) dNoPart (dPart (dVar 4))) (dVar 5)) (dCut (dVar 1) (dPart (dOp gAdd (dVar 4) (dC (.int 1)))) dNoPart)) (dCons (dOp gAdd (dOp gAdd (dCut (dVar 1) dNoPart (dPart (dVar 4))) (dVar 5)) (dCut (dVar 1) (dPart (dVar 4)) dNoPart)) (dCons (dOp gAdd (dOp gAdd (dCut (dVar 1) dNoPart (dPart (dVar 4))) (dOp gIx (dVar 1) (dVar 4))) (dCut (dVar 1) (dPart (dVar 4)) dNoPart)) dNil)))))))))))
      (dRet (dVar 2))))
def b__law_long (W : Nat → DF) : DS :=
  (dSeq (dSet 2 (dC (.str "I")))
      (dSeq (dFor (dRng1 (dCons (dOp gSub (dVar 1) (dC (.int 1))) dNil)) (gdName 3) (dSeq (dSet 4 (dOp gIx (dLst (dCons (dC (.str "B")) (dCons (dC (.str "C")) (dCons (dC (.str "I")) dNil)))) (dCall (W 7) (dCons (dVar 0) (dCons (dC (.int 3)) dNil)))))
      (dSet 2 (dOp gIx (dLst (dCons (dTup (dCons (dVar 2) (dCons (dVar 4) dNil))) (dCons (dTup (dCons (dVar 4) (dCons (dVar 2) dNil))) dNil))) (dCall (W 7) (dCons (dVar 0) (dCons (dC (.int 2)) dNil)))))))
      (dRet (dVar 2))))
def b_law (W : Nat → DF) : DS :=
  (dSeq (dSet 1 (dCall (W 6) (dCons (dVar 0) dNil)))
      (dSeq (dFor (dRng1 (dCons (dC (.int 4)) dNil)) (gdName 2) (dSeq (dSet 5 (dCall (W 9) (dCons (dVar 1) (dCons (dC (.int 20)) dNil))))
      (dSeq (dSet 4 (dCall (W 2) (dCons (dVar 5) dNil)))
      (dSeq (dIf (dOr (dNot (dB (dIsi isStr (dVar 4)))) (dOr (dB (dOp gNe (dVar 4) (dCall (W 10) (dCons (dVar 5) dNil)))) (dOr (dB (dOp gNe (dCall (W 11) (dCons (dVar 4) dNil)) (dTup (dCons (dC (.str "code")) (dCons (dVar 5) dNil))))) (dB (dOp gNe (dB1 gRepr (dCons (dCall (W 11) (dCons (dVar 4) dNil)) dNil)) (dB1 gRepr (dCons (dTup (dCons (dC (.str "code")) (dCons (dVar 5) dNil))) dNil))))))) (dRet (dC (.bl false))) dNext)
      (dSeq (dFor (dIter (dCall (W 13) (dCons (dVar 1) (dCons (dVar 4) dNil)))) (gdName 6) (dIf (dB (dOp gNe (dCall (W 11) (dCons (dVar 6) dNil)) (dCall (W 12) (dCons (dVar 6) dNil)))) (dRet (dC (.bl false))) dNext))
      (dSeq (dSet 6 (dJoin (dC (.str "")) (dComp (dRng1 (dCons (dCall (W 7) (dCons (dVar 1) (dCons (dC (.int 9)) dNil))) dNil)) 7 dYes (dOp gIx (dC (.str "((BCI)) ")) (dCall (W 7) (dCons (dVar 1) (dCons (dC (.int 8)) dNil)))))))
      (dIf (dB (dOp gNe (dCall (W 11) (dCons (dVar 6) dNil)) (dCall (W 12) (dCons (dVar 6) dNil)))) (dRet (dC (.bl false))) dNext)))))))
      (dSeq (dSet 3 (dOp gAdd (dC (.int 119)) (dCall (W 7) (dCons (dVar 1) (dCons (dC (.int 4)) dNil)))))
      (dSeq (dSet 4 (dCall (W 10) (dCons (dCall (W 14) (dCons (dVar 1) (dCons (dVar 3) dNil))) dNil)))
      (dSeq (dIf (dOr (dB (dOp gNe (dCall (W 11) (dCons (dVar 4) dNil)) (dCall (W 12) (dCons (dVar 4) dNil)))) (dB (dOp gNe (dOp gEq (dOp gIx (dCall (W 11) (dCons (dVar 4) dNil)) (dC (.int 0))) (dC (.str "bad"))) (dOp gGt (dVar 3) (dC (.int 120)))))) (dRet (dC (.bl false))) dNext)
      (dSeq (dIf (dOr (dB (dOp gNe (dCall (W 2) (dCons (dTup (dCons (dTup (dCons (dC (.str "B")) (dCons (dC (.str "C")) dNil))) (dCons (dC (.str "I")) dNil))) dNil)) (dC (.str "((BC)I)")))) (dOr (dB (dOp gNe (dCall (W 11) (dCons (dC (.str "((BC)I")) dNil)) (dTup (dCons (dC (.str "bad")) (dCons (dC (.int 6)) dNil))))) (dOr (dB (dOp gNe (dCall (W 11) (dCons (dC (.str "(BCI)")) dNil)) (dTup (dCons (dC (.str "bad")) (dCons (dC (.int 3)) dNil))))) (dB (dOp gNe (dCall (W 11) (dCons (dC (.str "(B)")) dNil)) (dTup (dCons (dC (.str "bad")) (dCons (dC (.int 2)) dNil)))))))) (dRet (dC (.bl false))) dNext)
      (dRet (dAndV (dOp gEq (dCall (W 11) (dCons (dC (.str "BC")) dNil)) (dTup (dCons (dC (.str "bad")) (dCons (dC (.int 1)) dNil)))) (dAndV (dOp gEq (dCall (W 11) (dCons (dC (.str " B")) dNil)) (dTup (dCons (dC (.str "bad")) (dCons (dC (.int 0)) dNil)))) (dAndV (dOp gEq (dCall (W 11) (dCons (dC (.str "(B C)")) dNil)) (dTup (dCons (dC (.str "bad")) (dCons (dC (.int 2)) dNil)))) (dOp gEq (dCall (W 11) (dCons (dC (.str "()")) dNil)) (dTup (dCons (dC (.str "bad")) (dCons (dC (.int 1)) dNil))))))))))))))
def bodies (W : Nat → DF) : Nat → DF
  | 0 => bodyF 1 (b_is_use W)
  | 1 => bodyF 1 (b_count_joiners W)
  | 2 => bodyF 1 (b_text_of_code W)
  | 3 => bodyF 3 (b_taken W)
  | 4 => bodyF 6 (b_code_from W)
  | 5 => bodyF 3 (b_code_of_text W)
  | 6 => bodyF 1 (b__law_feed W)
  | 7 => bodyF 5 (b__law_draw W)
  | 8 => bodyF 1 (b__law_is_whole W)
  | 9 => bodyF 6 (b__law_some_code W)
  | 10 => bodyF 1 (b__law_code_text W)
  | 11 => bodyF 3 (b__law_told W)
  | 12 => bodyG 8 (b__law_due W)
  | 13 => bodyF 6 (b__law_bent W)
  | 14 => bodyF 5 (b__law_long W)
  | 15 => bodyF 8 (b_law W)
  | _ => noF
def WW : Nat → Nat → DF
  | 0 => fun _ => noF
  | k + 1 => bodies (WW k)
theorem u_is_use (k : Nat) : WW (k + 1) 0 = bodyF 1 (b_is_use (WW k)) := rfl
theorem u_count_joiners (k : Nat) : WW (k + 1) 1 = bodyF 1 (b_count_joiners (WW k)) := rfl
theorem u_text_of_code (k : Nat) : WW (k + 1) 2 = bodyF 1 (b_text_of_code (WW k)) := rfl
theorem u_taken (k : Nat) : WW (k + 1) 3 = bodyF 3 (b_taken (WW k)) := rfl
theorem u_code_from (k : Nat) : WW (k + 1) 4 = bodyF 6 (b_code_from (WW k)) := rfl
theorem u_code_of_text (k : Nat) : WW (k + 1) 5 = bodyF 3 (b_code_of_text (WW k)) := rfl
theorem u__law_feed (k : Nat) : WW (k + 1) 6 = bodyF 1 (b__law_feed (WW k)) := rfl
theorem u__law_draw (k : Nat) : WW (k + 1) 7 = bodyF 5 (b__law_draw (WW k)) := rfl
theorem u__law_is_whole (k : Nat) : WW (k + 1) 8 = bodyF 1 (b__law_is_whole (WW k)) := rfl
theorem u__law_some_code (k : Nat) : WW (k + 1) 9 = bodyF 6 (b__law_some_code (WW k)) := rfl
theorem u__law_code_text (k : Nat) : WW (k + 1) 10 = bodyF 1 (b__law_code_text (WW k)) := rfl
theorem u__law_told (k : Nat) : WW (k + 1) 11 = bodyF 3 (b__law_told (WW k)) := rfl
theorem u__law_due (k : Nat) : WW (k + 1) 12 = bodyG 8 (b__law_due (WW k)) := rfl
theorem u__law_bent (k : Nat) : WW (k + 1) 13 = bodyF 6 (b__law_bent (WW k)) := rfl
theorem u__law_long (k : Nat) : WW (k + 1) 14 = bodyF 5 (b__law_long (WW k)) := rfl
theorem u_law (k : Nat) : WW (k + 1) 15 = bodyF 8 (b_law (WW k)) := rfl
end Once

namespace Once
open PySem PySem.Spec PyProof.Rows L2
local macro_rules | `(tactic| walk_at "d") => `(tactic| simp only [dSeq, dNext, dRet, dRetN, dDrop, dIf, dB, dOp, dVar, dC, dNil, dCons, dTup, dLst, dCall, dSet, dUnp, gdTup_t, gdCons_c, gdName, gdNil_n, dAnd, dOr, dNot, dAndV, dOrV, dNotV, dIfE, dIsi, dIsN, dNotN, dB1, dCut, dNoPart, dPart, dNeg, bodyF, startD, bodies, dRaise1,
  List.map_cons, List.map_nil, List.length_cons, List.length_nil, Nat.reduceAdd, Nat.reduceSub, List.replicate_succ, List.replicate_zero, List.cons_append, List.nil_append, List.append_nil, Nat.zero_add,
  List.getElem?_cons_zero, List.getElem?_cons_succ, Option.some.injEq, exists_eq_left', exists_eq_left, List.set_cons_zero, List.set_cons_succ, D.bl.injEq, D.int.injEq, D.str.injEq, D.tup.injEq, List.cons.injEq, and_true, true_and, Bool.not_true, Bool.not_false, if_true, if_false, Bool.false_eq_true, reduceCtorEq,
  gAdd_ii, gAdd_ss, gAdd_ll, gSub_ii, gMul_ii, gDiv_ii, gMod_ii, gPow_ii, gInt0_ii, gLt_ii, gLe_ii, gGt_ii, gGe_ii, gEq_ii, gEq_ss, gEq_bb, gNe_ii, gNe_ss, gNe_bb, gIx_t, gIx_s, gIx_l, atI_0, atI_1, atI_2, atI_3, gLen_s, gLen_t, gLen_l, gCut_l, gCut_s, gAbs_i, gIntOf_i, gIn_s, gNotIn_s])
theorem s_op : ("(" : Str) = tx [40] := rfl
theorem s_cl : (")" : Str) = tx [41] := rfl
theorem s_bci : ("(BCI" : Str) = tx [40, 66, 67, 73] := rfl
inductive Code where
  | B | C | I | use (f x : Code)
def codeD : Code → D
  | .B => .str (tx [66]) | .C => .str (tx [67]) | .I => .str (tx [73])
  | .use f x => .tup [codeD f, codeD x]
def Code.size : Code → Nat
  | .use f x => f.size + x.size
  | _ => 1
def Code.deep : Code → Nat
  | .use f x => max f.deep x.deep + 1
  | _ => 0
def Code.isUse : Code → Bool
  | .use _ _ => true
  | _ => false
def Code.txt : Code → List Nat
  | .B => [66] | .C => [67] | .I => [73]
  | .use f x => 40 :: (f.txt ++ (x.txt ++ [41]))
theorem Code.pos : ∀ c : Code, 0 < c.size
  | .B => by simp [size]
  | .C => by simp [size]
  | .I => by simp [size]
  | .use f x => by have := f.pos; simp only [size]; omega
theorem Code.txt_len : ∀ c : Code, c.txt.length + 2 = 3 * c.size
  | .B => by simp [size, txt]
  | .C => by simp [size, txt]
  | .I => by simp [size, txt]
  | .use f x => by have h1 := f.txt_len; have h2 := x.txt_len; have := f.pos; have := x.pos; simp only [size, txt, List.length_cons, List.length_append, List.length_nil]; omega
theorem Code.deep_lt : ∀ c : Code, c.deep < c.size
  | .B => by simp [size, deep]
  | .C => by simp [size, deep]
  | .I => by simp [size, deep]
  | .use f x => by have h1 := f.deep_lt; have h2 := x.deep_lt; simp only [size, deep]; omega
theorem code_ok : ∀ c : Code, okD (codeD c) = true
  | .B => by simp [codeD, okD]
  | .C => by simp [codeD, okD]
  | .I => by simp [codeD, okD]
  | .use f x => by have h1 := code_ok f; have h2 := code_ok x; simp [codeD, okD, okDs, h1, h2]
theorem code_deep : ∀ c : Code, deepD (codeD c) = c.deep
  | .B => by simp [codeD, deepD, Code.deep]
  | .C => by simp [codeD, deepD, Code.deep]
  | .I => by simp [codeD, deepD, Code.deep]
  | .use f x => by have h1 := code_deep f; have h2 := code_deep x; simp only [codeD, deepD, deepDs, Code.deep, h1, h2]; omega
theorem isTup_code (c : Code) : isTup (codeD c) = c.isUse := by cases c <;> rfl
theorem ask_code (μ : Mu) (c : Code) : askD μ (codeD c) := by cases c <;> exact trivial
section
variable {k : Nat} {μ : Mu} {x : DXF} {Q : DK}
theorem w_is_use (c : Code) (h : Q (.bl c.isUse) μ) : WW (k + 1) 0 [codeD c] μ x Q := by
  rw [u_is_use, b_is_use]
  walk_at "d"
  rw [isTup_code]
  exact ⟨ask_code μ c, h⟩
theorem w_count : ∀ (c : Code) (k : Nat) (Q : DK), c.deep + 2 ≤ k → Q (.int c.size) μ → WW k 1 [codeD c] μ x Q := by
  intro c
  induction c with
  | use f y hf hy =>
    intro k Q hk h
    obtain ⟨k, rfl⟩ : ∃ j, k = j + 2 := ⟨k - 2, by simp only [Code.deep] at hk; omega⟩
    simp only [Code.deep] at hk
    rw [u_count_joiners, b_count_joiners]
    walk_at "d"
    refine w_is_use (k := k) (.use f y) ?_
    simp only [Code.isUse, codeD]
    walk_at "d"
    refine hf _ _ (by omega) (hy _ _ (by omega) ?_)
    walk_at "d"
    simpa [Code.size] using h
  | _ =>
    intro k Q hk h
    obtain ⟨k, rfl⟩ : ∃ j, k = j + 2 := ⟨k - 2, by simp only [Code.deep] at hk; omega⟩
    rw [u_count_joiners, b_count_joiners]
    walk_at "d"
    refine w_is_use (k := k) _ ?_
    simp only [Code.isUse]
    walk_at "d"
    simpa [Code.size] using h
theorem w_text : ∀ (c : Code) (k : Nat) (Q : DK), c.size ≤ 1000 → c.deep + 2 ≤ k → Q (.str (tx c.txt)) μ → WW k 2 [codeD c] μ x Q := by
  intro c
  induction c with
  | use f y hf hy =>
    intro k Q hs hk h
    obtain ⟨k, rfl⟩ : ∃ j, k = j + 2 := ⟨k - 2, by simp only [Code.deep] at hk; omega⟩
    simp only [Code.deep] at hk
    simp only [Code.size] at hs
    have h1 := f.txt_len
    have h2 := y.txt_len
    have h3 := line_big
    rw [u_text_of_code, b_text_of_code]
    walk_at "d"
    refine w_is_use (k := k) (.use f y) ?_
    simp only [Code.isUse, codeD]
    walk_at "d"
    refine hf _ _ (by omega) (by omega) ?_
    walk_at "d"
    rw [s_op, s_cl, tx_app]
    refine ⟨by simp only [tx_len, List.length_cons, List.length_nil]; omega, hy _ _ (by omega) (by omega) ?_⟩
    walk_at "d"
    rw [tx_app, tx_app]
    refine ⟨by simp only [tx_len, List.length_cons, List.length_nil, List.length_append]; omega, by simp only [tx_len, List.length_cons, List.length_nil, List.length_append]; omega, ?_⟩
    simpa [Code.txt] using h
  | _ =>
    intro k Q hs hk h
    obtain ⟨k, rfl⟩ : ∃ j, k = j + 2 := ⟨k - 2, by simp only [Code.deep] at hk; omega⟩
    rw [u_text_of_code, b_text_of_code]
    walk_at "d"
    refine w_is_use (k := k) _ ?_
    simp only [Code.isUse]
    walk_at "d"
    simpa [Code.txt, codeD] using h
end
/-! ### reading a code -/
inductive PR where
  | err (rest : List Nat) | ok (c : Code) (rest : List Nat)
def shut (f x : Code) : List Nat → PR
  | [] => .err []
  | s :: r => if s = 41 then .ok (.use f x) r else .err (s :: r)
def parse : Nat → List Nat → PR
  | 0, r => .err r
  | _ + 1, [] => .err []
  | n + 1, s :: r => if s = 40 then (match parse n r with
      | .err e => .err e
      | .ok f r1 => match parse n r1 with
        | .err e => .err e
        | .ok x r2 => shut f x r2)
    else if s = 66 then .ok .B r else if s = 67 then .ok .C r else if s = 73 then .ok .I r else .err (s :: r)
def opens (l : List Nat) : Nat := l.count 40
theorem opens_cons (s : Nat) (l : List Nat) : opens (s :: l) = opens l + (if s = 40 then 1 else 0) := by
  unfold opens; rw [List.count_cons]; simp
theorem opens_app (a b : List Nat) : opens (a ++ b) = opens a + opens b := by unfold opens; rw [List.count_append]
theorem shut_ok {f x c : Code} {r r' : List Nat} (h : shut f x r = .ok c r') : c = .use f x ∧ r = 41 :: r' := by
  cases r with
  | nil => cases h
  | cons s r =>
    simp only [shut] at h
    split at h
    · rename_i e; cases h; subst e; exact ⟨rfl, rfl⟩
    · cases h
theorem shut_err {f x : Code} {r e : List Nat} (h : shut f x r = .err e) : e = r := by
  cases r with
  | nil => cases h; rfl
  | cons s r =>
    simp only [shut] at h
    split at h
    · cases h
    · cases h; rfl
theorem parse_ok : ∀ (n : Nat) (l : List Nat) (c : Code) (r : List Nat), parse n l = .ok c r → l = c.txt ++ r
  | 0, l, c, r, h => by cases h
  | n + 1, [], c, r, h => by cases h
  | n + 1, s :: l, c, r, h => by
    simp only [parse] at h
    by_cases e : s = 40
    · rw [if_pos e] at h
      cases h1 : parse n l with
      | err z => rw [h1] at h; cases h
      | ok f r1 =>
        rw [h1] at h
        simp only at h
        cases h2 : parse n r1 with
        | err z => rw [h2] at h; cases h
        | ok y r2 =>
          rw [h2] at h
          obtain ⟨e1, e2⟩ := shut_ok h
          subst e e1 e2
          rw [parse_ok n l f r1 h1, parse_ok n r1 y _ h2]
          simp [Code.txt]
    · rw [if_neg e] at h
      by_cases e1 : s = 66
      · rw [if_pos e1] at h; cases h; subst e1; rfl
      · rw [if_neg e1] at h
        by_cases e2 : s = 67
        · rw [if_pos e2] at h; cases h; subst e2; rfl
        · rw [if_neg e2] at h
          by_cases e3 : s = 73
          · rw [if_pos e3] at h; cases h; subst e3; rfl
          · rw [if_neg e3] at h; cases h
/-- the text of a code is read as that code -/
theorem parse_txt : ∀ (c : Code) (n : Nat) (r : List Nat), c.deep < n → parse n (c.txt ++ r) = .ok c r
  | .B, n + 1, r, _ => rfl
  | .C, n + 1, r, _ => rfl
  | .I, n + 1, r, _ => rfl
  | .use f x, n + 1, r, h => by
    simp only [Code.deep] at h
    have h1 := parse_txt f n (x.txt ++ (41 :: r)) (by omega)
    have h2 := parse_txt x n (41 :: r) (by omega)
    simp only [Code.txt, List.cons_append, List.append_assoc, List.nil_append, parse, if_true, h1, h2, shut]
section
variable {k : Nat} {μ : Mu} {x : DXF} {Q : DK}
/-- taken -/
theorem w_taken {z p rest al : List Nat} (hz : z = p ++ rest) (hl : z.length ≤ 100000) (h1 : ∀ s r, rest = s :: r → s ∈ al → Q (.str (tx [s])) μ)
    (h2 : (∀ s r, rest = s :: r → s ∉ al) → x "BadText" (["at"], [.int (p.length : Nat)]) μ) : WW (k + 1) 3 [.str (tx z), .int (p.length : Nat), .str (tx al)] μ x Q := by
  have h3 := line_big
  rw [u_taken, b_taken]
  walk_at "d"
  refine ⟨by rw [tx_len]; omega, ?_⟩
  rw [tx_len]
  cases rest with
  | nil =>
    have e : ((p.length : Nat) : Int) = ((z.length : Nat) : Int) := by rw [hz]; simp
    rw [e]
    simp only [beq_self_eq_true, if_true]
    rw [← e]
    exact h2 (fun s r q => by cases q)
  | cons s r =>
    have hlt : p.length < z.length := by rw [hz]; simp
    have ne : (((p.length : Nat) : Int) == ((z.length : Nat) : Int)) = false := by simp; omega
    have ea : atI (tx z).cps.toList ((p.length : Nat) : Int) = some s := atI_tx (by rw [hz]; simp)
    simp only [ne, Bool.false_eq_true, if_false]
    refine ⟨by omega, s, ea, ?_⟩
    rw [tx_cps al]
    by_cases hm : s ∈ al
    · rw [if_neg (by simp [hm])]
      exact ⟨by omega, s, ea, h1 s r rfl hm⟩
    · rw [if_pos (by simp [hm])]
      exact h2 (fun s' r' e => by cases e; exact hm)
/-- code_from; places are told by what is left -/
def left (z r : List Nat) : D := .int ((z.length - r.length : Nat) : Int)
theorem left_at {z p r : List Nat} (h : z = p ++ r) : left z r = .int (p.length : Nat) := by unfold left; rw [h, List.length_append]; congr 1; omega
theorem parse_suf : ∀ (n : Nat) (l e : List Nat), parse n l = .err e → ∃ p, l = p ++ e
  | 0, l, e, h => by cases h; exact ⟨[], rfl⟩
  | n + 1, [], e, h => by cases h; exact ⟨[], rfl⟩
  | n + 1, s :: l, e, h => by
    simp only [parse] at h
    by_cases e1 : s = 40
    · rw [if_pos e1] at h
      cases h1 : parse n l with
      | err z =>
        rw [h1] at h; cases h
        obtain ⟨p, hp⟩ := parse_suf n l _ h1
        exact ⟨s :: p, by rw [hp]; rfl⟩
      | ok f r1 =>
        rw [h1] at h
        simp only at h
        have hl := parse_ok n l f r1 h1
        cases h2 : parse n r1 with
        | err z =>
          rw [h2] at h; cases h
          obtain ⟨p, hp⟩ := parse_suf n r1 _ h2
          exact ⟨s :: (f.txt ++ p), by rw [hl, hp]; simp⟩
        | ok y r2 =>
          rw [h2] at h
          have := shut_err h
          subst this
          have hr := parse_ok n r1 y _ h2
          exact ⟨s :: (f.txt ++ y.txt), by rw [hl, hr]; simp⟩
    · rw [if_neg e1] at h
      split at h
      · cases h
      · split at h
        · cases h
        · split at h
          · cases h
          · cases h; exact ⟨[], rfl⟩
theorem w_code_from : ∀ (n k : Nat) (z p rest : List Nat) (Q : DK), z = p ++ rest → z.length ≤ 100000 → opens rest < n → n + 1 ≤ k → (∀ c r, parse n rest = .ok c r → Q (.tup [codeD c, left z r]) μ) → (∀ e, parse n rest = .err e → x "BadText" (["at"], [left z e]) μ) →
    WW k 4 [.str (tx z), .int (p.length : Nat)] μ x Q
  | 0, _, _, _, _, _, _, _, h, _, _, _ => absurd h (Nat.not_lt_zero _)
  | n + 1, k, z, p, rest, Q, hz, hl, hn, hk, ho, he => by
    obtain ⟨k, rfl⟩ : ∃ j, k = j + 2 := ⟨k - 2, by omega⟩
    have h3 := line_big
    rw [u_code_from, b_code_from]
    walk_at "d"
    rw [s_bci, s_op, s_cl]
    refine w_taken hz hl (fun s r e hm => ?_) fun hm => ?_
    · subst e
      have ea : atI (tx z).cps.toList ((p.length : Nat) : Int) = some s := atI_tx (by rw [hz]; simp)
      walk_at "d"
      rw [tx_beq]
      have hz1 : z = (p ++ [s]) ++ r := by rw [hz]; simp
      have ep : ((p.length : Nat) : Int) + 1 = (((p ++ [s]).length : Nat) : Int) := by simp
      by_cases h40 : s = 40
      · subst h40
        rw [if_neg (by simp)]
        rw [ep]
        rw [opens_cons, if_pos rfl] at hn
        refine w_code_from n (k + 1) z (p ++ [40]) r _ hz1 hl (by omega) (by omega) (fun f r1 e1 => ?_) (fun e e1 => he e (by simp only [parse, if_true, e1]))
        have hr := parse_ok _ _ _ _ e1
        have hz2 : z = (p ++ [40] ++ f.txt) ++ r1 := by rw [hz1, hr]; simp
        walk_at "d"
        rw [left_at hz2]
        have on1 : opens r1 < n := by rw [hr, opens_app] at hn; omega
        refine w_code_from n (k + 1) z _ r1 _ hz2 hl on1 (by omega) (fun y r2 e2 => ?_) (fun e e2 => he e (by simp only [parse, if_true, e1, e2]))
        have hr2 := parse_ok _ _ _ _ e2
        have hz3 : z = (p ++ [40] ++ f.txt ++ y.txt) ++ r2 := by rw [hz2, hr2]; simp
        walk_at "d"
        rw [left_at hz3]
        refine w_taken hz3 hl (fun s r3 e3 hm3 => ?_) fun hm3 => ?_
        · subst e3
          have es : s = 41 := by simpa using hm3
          subst es
          walk_at "d"
          have := ho (.use f y) r3 (by simp only [parse, if_true, e1, e2, shut])
          have hz4 : z = (p ++ [40] ++ f.txt ++ y.txt ++ [41]) ++ r3 := by rw [hz3]; simp
          have e5 : (((p ++ [40] ++ f.txt ++ y.txt ++ [41]).length : Nat) : Int) = (((p ++ [40] ++ f.txt ++ y.txt).length : Nat) : Int) + 1 := by simp; omega
          rw [left_at hz4, e5] at this
          exact this
        · have := he r2 (by
            simp only [parse, if_true, e1, e2]
            cases r2 with
            | nil => rfl
            | cons s r3 =>
              have := hm3 s r3 rfl
              simp only [shut]
              rw [if_neg (by simpa using this)])
          rw [left_at hz3] at this
          exact this
      · rw [if_pos (by simpa using h40)]
        refine ⟨by rw [tx_len]; omega, s, ea, ?_⟩
        have hs : s = 66 ∨ s = 67 ∨ s = 73 := by simpa [h40] using hm
        have step : ∀ c : Code, parse (n + 1) (s :: r) = .ok c r → codeD c = .str (tx [s]) → Q (.tup [.str ⟨#[s]⟩, .int ((p.length : Nat) + 1)]) μ := fun c e1 e2 => by
          have := ho c r e1
          rw [left_at hz1, e2, ← ep] at this
          exact this
        rcases hs with e | e | e
        · subst e; exact step .B rfl rfl
        · subst e; exact step .C rfl rfl
        · subst e; exact step .I rfl rfl
    · have : parse (n + 1) rest = .err rest := by
        cases rest with
        | nil => rfl
        | cons s r =>
          have := hm s r rfl
          simp only [List.mem_cons, List.not_mem_nil, or_false, not_or] at this
          simp only [parse, this.1, this.2.1, this.2.2.1, this.2.2.2, if_false]
      have := he rest this
      rw [left_at hz] at this
      exact this
end
end Once

namespace Once
open PySem PySem.Spec PyProof.Rows L2
local macro_rules | `(tactic| walk_at "d") => `(tactic| simp only [dSeq, dNext, dRet, dRetN, dDrop, dIf, dB, dOp, dVar, dC, dNil, dCons, dTup, dLst, dCall, dSet, dUnp, gdTup_t, gdCons_c, gdName, gdNil_n, dAnd, dOr, dNot, dAndV, dOrV, dNotV, dIfE, dIsi, dIsN, dNotN, dB1, dCut, dNoPart, dPart, dNeg, bodyF, startD, bodies, dRaise1,
  List.map_cons, List.map_nil, List.length_cons, List.length_nil, Nat.reduceAdd, Nat.reduceSub, List.replicate_succ, List.replicate_zero, List.cons_append, List.nil_append, List.append_nil, Nat.zero_add,
  List.getElem?_cons_zero, List.getElem?_cons_succ, Option.some.injEq, exists_eq_left', exists_eq_left, List.set_cons_zero, List.set_cons_succ, D.bl.injEq, D.int.injEq, D.str.injEq, D.tup.injEq, List.cons.injEq, and_true, true_and, Bool.not_true, Bool.not_false, if_true, if_false, Bool.false_eq_true, reduceCtorEq,
  gAdd_ii, gAdd_ss, gAdd_ll, gSub_ii, gMul_ii, gDiv_ii, gMod_ii, gPow_ii, gInt0_ii, gLt_ii, gLe_ii, gGt_ii, gGe_ii, gEq_ii, gEq_ss, gEq_bb, gNe_ii, gNe_ss, gNe_bb, gIx_t, gIx_s, gIx_l, atI_0, atI_1, atI_2, atI_3, gLen_s, gLen_t, gLen_l, gCut_l, gCut_s, gAbs_i, gIntOf_i, gIn_s, gNotIn_s])
theorem deep_opens : ∀ c : Code, c.deep ≤ opens c.txt
  | .B => Nat.zero_le _
  | .C => Nat.zero_le _
  | .I => Nat.zero_le _
  | .use f x => by
    have h1 := deep_opens f
    have h2 := deep_opens x
    simp only [Code.deep, Code.txt, opens_cons, opens_app, if_true]
    omega
def bad (i : Nat) : D := .tup [.str "bad", .int (i : Nat)]
def codeA (c : Code) : D := .tup [.str "code", codeD c]
def endA (z : List Nat) (c : Code) : List Nat → D
  | [] => if c.size ≤ 120 then codeA c else bad z.length
  | s :: r => bad (z.length - (s :: r).length)
def ansP (z : List Nat) : PR → D
  | .err e => bad (z.length - e.length)
  | .ok c r => endA z c r
def ans (z : List Nat) : D := ansP z (parse (opens z + 1) z)
section
variable {k : Nat} {μ : Mu} {x : DXF} {Q : DK}
theorem w_code_of_text {z : List Nat} (hl : z.length ≤ 1000) (hk : opens z + 6 ≤ k) (ho : ∀ c, ans z = codeA c → Q (codeD c) μ) (he : ∀ i : Nat, ans z = bad i → x "BadText" (["at"], [.int (i : Nat)]) μ) :
    WW k 5 [.str (tx z)] μ x Q := by
  obtain ⟨k, rfl⟩ : ∃ j, k = j + 1 := ⟨k - 1, by omega⟩
  have h3 := line_big
  rw [u_code_of_text, b_code_of_text]
  walk_at "d"
  refine w_code_from (opens z + 1) k z [] z _ rfl (by omega) (by omega) (by omega) (fun c r e => ?_) fun e q => ?_
  · have hz := parse_ok _ _ _ _ e
    walk_at "d"
    rw [left_at hz]
    have e1 : ans z = endA z c r := by unfold ans; rw [e]; rfl
    have l0 : z.length = c.txt.length + r.length := by rw [hz]; simp
    walk_at "d"
    refine ⟨by rw [tx_len]; omega, ?_⟩
    cases r with
    | cons s r =>
      simp only [List.length_cons] at l0
      rw [if_pos (by rw [tx_len, decide_eq_true_eq]; omega)]
      have : z.length - (s :: r).length = c.txt.length := by simp only [List.length_cons]; omega
      have := he _ e1
      rw [show z.length - (s :: r).length = c.txt.length by simp only [List.length_cons]; omega] at this
      exact this
    | nil =>
      simp only [List.length_nil] at l0
      rw [if_neg (by rw [tx_len, decide_eq_true_eq]; omega)]
      have hd := deep_opens c
      have : opens z = opens c.txt := by rw [hz, List.append_nil]
      refine w_count c _ _ (by omega) ?_
      walk_at "d"
      by_cases hs : c.size ≤ 120
      · rw [if_neg (by rw [decide_eq_true_eq]; omega)]
        exact ho c (by rw [e1]; exact if_pos hs)
      · rw [if_pos (by rw [decide_eq_true_eq]; omega)]
        refine ⟨by rw [tx_len]; omega, ?_⟩
        rw [tx_len]
        exact he _ (by rw [e1]; exact if_neg hs)
  · exact he _ (by unfold ans; rw [q]; rfl)
theorem w_told {z : List Nat} (hl : z.length ≤ 1000) (hk : opens z + 8 ≤ k) (h : Q (ans z) μ) : WW k 11 [.str (tx z)] μ x Q := by
  obtain ⟨k, rfl⟩ : ∃ j, k = j + 1 := ⟨k - 1, by omega⟩
  rw [u__law_told, b__law_told]
  walk_at "d"
  simp only [dTry]
  walk_at "d"
  refine w_code_of_text hl (by omega) (fun c e => ?_) fun i e => .inl ⟨rfl, fun a dd => ?_⟩
  · rw [e] at h
    exact h
  · rw [e] at h
    simp only [dIsE, dXf, b__law_is_whole]
    walk_at "d"
    simp only [D.exc.injEq, true_and, and_assoc, exists_and_left, exists_eq_left', if_true, if_false, Bool.not_true, Bool.not_false, Bool.false_eq_true, fldOf, Option.some.injEq, isInt, isBool, askD]
    exact h
/-! ### the feed -/
def FeedAt (μ : Mu) (a : Addr) : Prop := ∃ (ns : List Int) (i big seed : Int), μ a = some (.lst [.lst (ns.map .int), .int i, .int big, .int seed]) ∧ 0 ≤ i ∧ 0 ≤ big ∧ 0 ≤ seed ∧ seed < 2147483647
theorem w_feed (ns : List Int) (hq : ∀ a, μ a = none → Q (.mref a) (put μ a (.lst [.lst (ns.map .int), .int 0, .int 0, .int 1]))) : WW (k + 1) 6 [.scr ns] μ x Q := by
  rw [u__law_feed, b__law_feed]
  walk_at "d"
  simp only [dNew]
  walk_at "d"
  refine ⟨ns.map .int, ?_, fun a ha => hq a ha⟩
  simp [itemsOf, seqOf]

theorem FeedAt.put_other {a b : Addr} {m : MO} (h : FeedAt μ a) (n : a ≠ b) : FeedAt (put μ b m) a := by
  obtain ⟨ns, i, big, seed, e, r⟩ := h
  exact ⟨ns, i, big, seed, by rw [put_ne n]; exact e, r⟩
/-- all but the feed as it was -/
def But (a : Addr) (μ μ' : Mu) : Prop := ∀ b, b ≠ a → μ' b = μ b
def drawTail : DS :=
      (dSeq (dIf (dB (dOp gGt (dOp gIx (dVar 0) (dC (.int 2))) (dC (.int 0)))) (dSeq (dSet 4 (dOp gMod (dB1 gIntOf (dCons (dOp gIx (dVar 0) (dC (.int 2))) dNil)) (dVar 1)))
        (dSeq (dSetAt (dOp gDiv (dOp gIx (dVar 0) (dC (.int 2))) (dVar 1)) (dVar 0) (dC (.int 2)))
        (dRet (dVar 4)))) dNext)
        (dSeq (dSetAt (dOp gMod (dB1 gIntOf (dCons (dOp gAdd (dOp gMul (dOp gIx (dVar 0) (dC (.int 3))) (dC (.int 16807))) (dC (.int 12345))) dNil)) (dC (.int 2147483647))) (dVar 0) (dC (.int 3)))
        (dSeq (dSet 2 (dOp gMod (dB1 gIntOf (dCons (dOp gAdd (dOp gMul (dOp gIx (dVar 0) (dC (.int 3))) (dOp gIx (dVar 0) (dC (.int 3)))) (dOp gIx (dVar 0) (dC (.int 3)))) dNil)) (dC (.int 2147483629))))
        (dRet (dOp gMod (dOp gDiv (dVar 2) (dC (.int 11))) (dVar 1))))))
def drawHead : DS :=
  (dIf (dAnd (dB (dOp gEq (dOp gIx (dVar 0) (dC (.int 2))) (dC (.int 0)))) (dB (dOp gLt (dOp gIx (dVar 0) (dC (.int 1))) (dB1 gLen (dCons (dOp gIx (dVar 0) (dC (.int 0))) dNil))))) (dSeq (dSet 3 (dB1 gAbs (dCons (dB1 gIntOf (dCons (dOp gIx (dOp gIx (dVar 0) (dC (.int 0))) (dOp gIx (dVar 0) (dC (.int 1)))) dNil)) dNil)))
      (dSeq (dAugAt (gInt0 fun i j => .int (i + j)) (dVar 0) (dC (.int 1)) (dC (.int 1)))
      (dIf (dB (dOp gGe (dVar 3) (dOp gPow (dC (.int 10)) (dC (.int 18))))) (dSetAt (dVar 3) (dVar 0) (dC (.int 2))) (dSetAt (dOp gMod (dB1 gIntOf (dCons (dOp gAdd (dOp gAdd (dOp gMul (dOp gIx (dVar 0) (dC (.int 3))) (dC (.int 48271))) (dOp gMul (dVar 3) (dC (.int 69621)))) (dOp gIx (dVar 0) (dC (.int 1)))) dNil)) (dC (.int 2147483647))) (dVar 0) (dC (.int 3)))))) dNext)
theorem draw_is (W : Nat → DF) : b__law_draw W = dSeq drawHead drawTail := rfl
theorem w_draw {a : Addr} {m : Int} (hf : FeedAt μ a) (h0 : 0 < m) (h1 : m < 1073741824) (hq : ∀ (r : Int) μ', 0 ≤ r → r < m → FeedAt μ' a → But a μ μ' → Q (.int r) μ') : WW (k + 1) 7 [.mref a, .int m] μ x Q := by
  rw [u__law_draw, draw_is]
  -- the second half, from any state
  have tail : ∀ (ns : List Int) (i big seed : Int) (o2 o3 o4 : Option D), 0 ≤ i → 0 ≤ big → 0 ≤ seed → seed < 2147483647 → ∀ μ2, But a μ μ2 → μ2 a = some (.lst [.lst (ns.map .int), .int i, .int big, .int seed]) →
      drawTail { nx := fun _ μ' => Q .non μ', rt := Q, bk := fun _ _ => False, ct := fun _ _ => False, ex := fun _ c fs μ' => x c fs μ' } [some (.mref a), some (.int m), o2, o3, o4] μ2 := by
    intro ns i big seed o2 o3 o4 hi hb hs1 hs2 μ2 hbut e
    rw [drawTail]
    walk_at "d"
    rw [gIx_m e]
    walk_at "d"
    by_cases hp : 0 < big
    · rw [if_pos (by simpa using hp)]
      rw [gIx_m e]
      walk_at "d"
      refine ⟨h0, ?_⟩
      simp only [dSetAt]
      walk_at "d"
      rw [gIx_m e]
      walk_at "d"
      refine ⟨⟨h0, h1⟩, a, _, 2, 2, rfl, rfl, e, rfl, ?_⟩
      walk_at "d"
      refine hq _ _ (Int.emod_nonneg _ (by omega)) (Int.emod_lt_of_pos _ h0) ⟨ns, i, big / m, seed, put_same, hi, Int.ediv_nonneg hb (by omega), hs1, hs2⟩ fun b hb => ?_
      rw [put_ne hb]
      exact hbut b hb
    · rw [if_neg (by simpa using hp)]
      simp only [dSetAt]
      walk_at "d"
      rw [gIx_m e]
      walk_at "d"
      refine ⟨.inl ⟨by omega, by omega⟩, by omega, a, _, 3, 3, rfl, rfl, e, rfl, ?_⟩
      generalize hs : (seed * 16807 + 12345) % 2147483647 = sd
      have s1 : 0 ≤ sd := by omega
      have s2 : sd < 2147483647 := by omega
      have e2 : put μ2 a (.lst (([D.lst (ns.map .int), .int i, .int big, .int seed]).set 3 (.int sd))) a = some (.lst [.lst (ns.map .int), .int i, .int big, .int sd]) := put_same
      generalize hm : put μ2 a (.lst (([D.lst (ns.map .int), .int i, .int big, .int seed]).set 3 (.int sd))) = μ3 at e2 ⊢
      try walk_at "d"
      rw [gIx_m e2]
      walk_at "d"
      rw [gIx_m e2]
      walk_at "d"
      refine ⟨.inl ⟨by omega, by omega⟩, ?_⟩
      rw [gIx_m e2]
      walk_at "d"
      refine ⟨by omega, ⟨by omega, by omega⟩, h0, ?_⟩
      refine hq _ _ (Int.emod_nonneg _ (by omega)) (Int.emod_lt_of_pos _ h0) ⟨ns, i, big, sd, e2, hi, hb, s1, s2⟩ fun b hb => ?_
      rw [← hm, put_ne hb]
      exact hbut b hb
  obtain ⟨ns, i, big, seed, e, hi, hb, hs1, hs2⟩ := id hf
  rw [bodyF, startD]
  rw [dSeq, drawHead]
  walk_at "d"
  rw [gIx_m e]
  walk_at "d"
  by_cases hz : big = 0
  · subst hz
    simp only [beq_self_eq_true, if_true]
    rw [gIx_m e]
    walk_at "d"
    rw [gIx_m e]
    walk_at "d"
    by_cases hl : i < ((ns.map D.int).length : Nat)
    · rw [if_pos (by simpa using hl)]
      rw [gIx_m e]
      walk_at "d"
      rw [gIx_m e]
      walk_at "d"
      obtain ⟨n, rfl⟩ : ∃ n : Nat, i = n := ⟨i.toNat, by omega⟩
      rw [List.length_map] at hl
      have hn : n < ns.length := by omega
      refine ⟨.int ns[n], atI_nat (by rw [List.getElem?_map, List.getElem?_eq_getElem hn]; rfl), ?_⟩
      walk_at "d"
      generalize hc : (if ns[n] < 0 then -ns[n] else ns[n]) = cell
      have c0 : 0 ≤ cell := by rw [← hc]; split <;> omega
      simp only [dAugAt, dSetAt]
      walk_at "d"
      refine ⟨a, _, 1, _, rfl, rfl, e, by omega, rfl, ?_⟩
      walk_at "d"
      refine ⟨_, e, by simp, ?_⟩
      have e2 : put μ a (.lst (([D.lst (ns.map .int), .int (n : Int), .int 0, .int seed]).set 1 (.int ((n : Int) + 1)))) a = some (.lst [.lst (ns.map .int), .int ((n : Int) + 1), .int 0, .int seed]) := put_same
      have b2 : But a μ (put μ a (.lst (([D.lst (ns.map .int), .int (n : Int), .int 0, .int seed]).set 1 (.int ((n : Int) + 1))))) := fun b hb => put_ne hb
      generalize hm : put μ a (.lst (([D.lst (ns.map .int), .int (n : Int), .int 0, .int seed]).set 1 (.int ((n : Int) + 1)))) = μ3 at e2 b2 ⊢
      try walk_at "d"
      refine ⟨⟨by omega, by omega, by omega⟩, ?_⟩
      by_cases hg : (10 : Int) ^ (18 : Int).toNat ≤ cell
      · rw [if_pos (by simpa using hg)]
        simp only [dSetAt]
        walk_at "d"
        refine ⟨a, _, 2, 2, rfl, rfl, e2, rfl, ?_⟩
        exact tail ns _ cell seed _ _ _ (by omega) c0 hs1 hs2 _ (fun b hb => by rw [put_ne hb]; exact b2 b hb) put_same
      · rw [if_neg (by simpa using hg)]
        simp only [dSetAt]
        walk_at "d"
        rw [gIx_m e2]
        walk_at "d"
        refine ⟨.inl ⟨by omega, by omega⟩, .inr ⟨by omega, by omega⟩, ?_⟩
        rw [gIx_m e2]
        walk_at "d"
        refine ⟨by omega, a, _, 3, 3, rfl, rfl, e2, rfl, ?_⟩
        exact tail ns _ 0 _ _ _ _ (by omega) (by omega) (by omega) (by omega) _ (fun b hb => by rw [put_ne hb]; exact b2 b hb) put_same
    · rw [if_neg (by simpa using hl)]
      exact tail ns i 0 seed _ _ _ hi (by omega) hs1 hs2 μ (fun _ _ => rfl) e
  · have : (big == 0) = false := by simpa using hz
    simp only [this, Bool.false_eq_true, if_false]
    exact tail ns i big seed _ _ _ hi hb hs1 hs2 μ (fun _ _ => rfl) e
end
end Once

namespace Once
open PySem PySem.Spec PyProof.Rows L2
local macro_rules | `(tactic| walk_at "d") => `(tactic| simp only [dSeq, dNext, dRet, dRetN, dDrop, dIf, dB, dOp, dVar, dC, dNil, dCons, dTup, dLst, dCall, dSet, dUnp, gdTup_t, gdCons_c, gdName, gdNil_n, dAnd, dOr, dNot, dAndV, dOrV, dNotV, dIfE, dIsi, dIsN, dNotN, dB1, dCut, dNoPart, dPart, dNeg, bodyF, startD, bodies, dRaise1,
  List.map_cons, List.map_nil, List.length_cons, List.length_nil, Nat.reduceAdd, Nat.reduceSub, List.replicate_succ, List.replicate_zero, List.cons_append, List.nil_append, List.append_nil, Nat.zero_add,
  List.getElem?_cons_zero, List.getElem?_cons_succ, Option.some.injEq, exists_eq_left', exists_eq_left, List.set_cons_zero, List.set_cons_succ, D.bl.injEq, D.int.injEq, D.str.injEq, D.tup.injEq, List.cons.injEq, and_true, true_and, Bool.not_true, Bool.not_false, if_true, if_false, Bool.false_eq_true, reduceCtorEq,
  gAdd_ii, gAdd_ss, gAdd_ll, gSub_ii, gMul_ii, gDiv_ii, gMod_ii, gPow_ii, gInt0_ii, gLt_ii, gLe_ii, gGt_ii, gGe_ii, gEq_ii, gEq_ss, gEq_bb, gNe_ii, gNe_ss, gNe_bb, gIx_t, gIx_s, gIx_l, atI_0, atI_1, atI_2, atI_3, gLen_s, gLen_t, gLen_l, gCut_l, gCut_s, gAbs_i, gIntOf_i, gIn_s, gNotIn_s])

/-! ### due -/
def Stk (μ0 μ : Mu) (h : Addr) : List Addr → List (List Code) → Prop
  | [], [] => True
  | a :: as, s :: st => μ a = some (.lst (s.map codeD)) ∧ a ∉ as ∧ a ≠ h ∧ μ0 a = none ∧ Stk μ0 μ h as st
  | _, _ => False
def hp (as : List Addr) : List D := as.reverse.map .mref
theorem hp_cons (a : Addr) (as : List Addr) : hp (a :: as) = hp as ++ [.mref a] := by simp [hp]
theorem hp_len (as : List Addr) : (hp as).length = as.length := by simp [hp]
structure Inv (μ0 μ : Mu) (h : Addr) (as : List Addr) (st : List (List Code)) : Prop where
  sub : SubM μ0 μ
  h0 : μ0 h = none
  mh : μ h = some (.lst (hp as))
  sk : Stk μ0 μ h as st
theorem Stk.put {μ0 μ : Mu} {h b : Addr} {m : MO} : ∀ {as : List Addr} {st : List (List Code)}, Stk μ0 μ h as st → b ∉ as → Stk μ0 (put μ b m) h as st
  | [], [], _, _ => trivial
  | a :: as, s :: st, ⟨h1, h2, h3, h4, h5⟩, nb => by
    have n1 : a ≠ b := fun e => nb (by rw [e]; exact List.mem_cons_self)
    exact ⟨by rw [put_ne n1]; exact h1, h2, h3, h4, h5.put fun z => nb (List.mem_cons_of_mem _ z)⟩
  | [], _ :: _, z, _ => z.elim
  | _ :: _, [], z, _ => z.elim
theorem Stk.some {μ0 μ : Mu} {h b : Addr} : ∀ {as : List Addr} {st : List (List Code)}, Stk μ0 μ h as st → b ∈ as → ∃ m, μ b = some m
  | [], _, _, z => absurd z (by simp)
  | a :: as, s :: st, ⟨h1, h2, h3, h4, h5⟩, z => by
    rcases List.mem_cons.mp z with e | z
    · subst e; exact ⟨_, h1⟩
    · exact h5.some z
  | _ :: _, [], z, _ => z.elim
theorem Stk.noh {μ0 μ : Mu} {h : Addr} : ∀ {as : List Addr} {st : List (List Code)}, Stk μ0 μ h as st → h ∉ as
  | [], _, _ => by simp
  | a :: as, s :: st, ⟨h1, h2, h3, h4, h5⟩ => by
    intro z
    rcases List.mem_cons.mp z with e | z
    · exact h3 e.symm
    · exact h5.noh z
  | _ :: _, [], z => z.elim
theorem SubM.put {μ0 μ : Mu} {a : Addr} {m : MO} (h : SubM μ0 μ) (n : μ0 a = none) : SubM μ0 (put μ a m) := fun b o e => by
  have : b ≠ a := fun z => by rw [z, n] at e; cases e
  rw [put_ne this]
  exact h b o e
theorem Inv.new {μ0 μ : Mu} {h a : Addr} {as : List Addr} {st : List (List Code)} (I : Inv μ0 μ h as st) (ha : μ a = none) :
    Inv μ0 (put (put μ a (.lst [])) h (.lst (hp as ++ [.mref a]))) h (a :: as) ([] :: st) := by
  have a0 : μ0 a = none := by
    cases e : μ0 a with
    | none => rfl
    | some m => rw [I.sub a m e] at ha; cases ha
  have na : a ∉ as := fun z => by obtain ⟨m, e⟩ := I.sk.some z; rw [e] at ha; cases ha
  have nh : a ≠ h := fun z => by rw [z, I.mh] at ha; cases ha
  refine ⟨(I.sub.put a0).put I.h0, I.h0, by rw [put_same, hp_cons], ⟨by rw [put_ne nh, put_same]; rfl, na, nh, a0, (I.sk.put na).put I.sk.noh⟩⟩
theorem Inv.pop {μ0 μ : Mu} {h a : Addr} {as : List Addr} {s : List Code} {st : List (List Code)} (I : Inv μ0 μ h (a :: as) (s :: st)) : Inv μ0 (put μ h (.lst (hp as))) h as st := by
  obtain ⟨h1, h2, h3, h4, h5⟩ := I.sk
  exact ⟨I.sub.put I.h0, I.h0, put_same, h5.put h5.noh⟩
theorem Inv.add {μ0 μ : Mu} {h a : Addr} {as : List Addr} {s : List Code} {st : List (List Code)} (I : Inv μ0 μ h (a :: as) (s :: st)) (c : Code) :
    Inv μ0 (put μ a (.lst (s.map codeD ++ [codeD c]))) h (a :: as) ((s ++ [c]) :: st) := by
  obtain ⟨h1, h2, h3, h4, h5⟩ := I.sk
  exact ⟨I.sub.put h4, I.h0, by rw [put_ne fun z => h3 z.symm]; exact I.mh, ⟨by rw [put_same]; simp, h2, h3, h4, h5.put h2⟩⟩
theorem rngD_0 (lo : Int) : rngD lo 0 = [] := rfl
theorem rngD_succ (lo : Int) (n : Nat) : rngD lo (n + 1) = .int lo :: rngD (lo + 1) n := by
  unfold rngD
  rw [List.range_succ_eq_map, List.map_cons, List.map_map]
  refine congr (congrArg List.cons ?_) (List.map_congr_left fun i _ => ?_)
  · simp
  · simp only [Function.comp]; congr 1; push_cast; omega
theorem atI_last {α : Type} {x : α} {l : List α} : atI (l ++ [x]) (-1) = some x := by
  have e : ixN (l.length + 1) (-1) = some l.length := by unfold ixN; simp; omega
  simp [atI, e]
/-- whether a code may begin here -/
def openS : List (List Code) → Bool
  | [] => true
  | s :: _ => decide (s.length < 2)
section
variable {k : Nat} {μ μ0 : Mu} {x : DXF} {Q : DK}
def dOpenT : DT := (dOr (dB (dOp gEq (dB1 gLen (dCons (dVar 1) dNil)) (dC (.int 0)))) (dB (dOp gLt (dB1 gLen (dCons (dOp gIx (dVar 1) (dNeg (dC (.int 1)))) dNil)) (dC (.int 2)))))
def dShutT : DT := (dAnd (dB (dOp gGt (dB1 gLen (dCons (dVar 1) dNil)) (dC (.int 0)))) (dB (dOp gEq (dB1 gLen (dCons (dOp gIx (dVar 1) (dNeg (dC (.int 1)))) dNil)) (dC (.int 2)))))
def dueAfter : DS := (dIf (dAnd (dB (dNotN (dVar 5))) (dB (dOp gEq (dB1 gLen (dCons (dVar 1) dNil)) (dC (.int 0))))) (dSet 2 (dVar 5)) (dIf (dB (dNotN (dVar 5))) (dDrop (dApp (dOp gIx (dVar 1) (dNeg (dC (.int 1)))) (dVar 5))) dNext))
def dueBody : DS := (dSeq (dSet 4 (dOp gIx (dVar 0) (dVar 3)))
      (dSeq (dSet 5 (dC .non))
      (dSeq (dIf (dB (dNotN (dVar 2))) (dRet (dTup (dCons (dC (.str "bad")) (dCons (dVar 3) dNil)))) dNext)
      (dSeq (dIf (dAnd (dB (dOp gEq (dVar 4) (dC (.str "(")))) dOpenT) (dDrop (dApp (dVar 1) (dNew dNil))) (dIf (dAnd (dB (dOp gIn (dVar 4) (dLst (dCons (dC (.str "B")) (dCons (dC (.str "C")) (dCons (dC (.str "I")) dNil)))))) dOpenT) (dSet 5 (dVar 4)) (dIf (dAnd (dB (dOp gEq (dVar 4) (dC (.str ")")))) dShutT) (dSeq (dSet 6 (dPop (dVar 1)))
      (dSet 5 (dTup (dCons (dOp gIx (dVar 6) (dC (.int 0))) (dCons (dOp gIx (dVar 6) (dC (.int 1))) dNil))))) (dRet (dTup (dCons (dC (.str "bad")) (dCons (dVar 3) dNil)))))))
      dueAfter))))
def dueEnd : DS := (dSeq (dIf (dOr (dB (dIsN (dVar 2))) (dB (dOp gGt (dB1 gLen (dCons (dComp (dIterS (dVar 0)) 7 (dB (dOp gIn (dVar 7) (dC (.str "BCI")))) (dVar 7)) dNil)) (dC (.int 120))))) (dRet (dTup (dCons (dC (.str "bad")) (dCons (dB1 gLen (dCons (dVar 0) dNil)) dNil)))) dNext)
      (dRet (dTup (dCons (dC (.str "code")) (dCons (dVar 2) dNil)))))
theorem due_is (W : Nat → DF) : b__law_due W = (dSeq (dSet 1 (dNew dNil))
      (dSeq (dSet 2 (dC .non))
      (dSeq (dFor (dRng1 (dCons (dB1 gLen (dCons (dVar 0) dNil)) dNil)) (gdName 3) dueBody) dueEnd))) := rfl
theorem signs_in (s : Nat) : anyD (.str ⟨#[s]⟩) [.str "B", .str "C", .str "I"] = decide (s = 66 ∨ s = 67 ∨ s = 73) := by
  have e1 : ("B" : Str) = tx [66] := rfl
  have e2 : ("C" : Str) = tx [67] := rfl
  have e3 : ("I" : Str) = tx [73] := rfl
  simp only [anyD, List.any_cons, List.any_nil, eqD_ss, tx_one, e1, e2, e3, tx_beq, List.cons.injEq, and_true, Bool.or_false, Bool.decide_or]
  simp only [eq_comm]

def shutS : List (List Code) → Bool
  | [] => false
  | s :: _ => s.length == 2
theorem Inv.len {h : Addr} {as : List Addr} {st : List (List Code)} (I : Inv μ0 μ h as st) : as.length = st.length := by
  have : ∀ {as : List Addr} {st : List (List Code)}, Stk μ0 μ h as st → as.length = st.length := fun {as} => by
    induction as with
    | nil => intro st z; cases st with
      | nil => rfl
      | cons _ _ => exact z.elim
    | cons a as ih => intro st z; cases st with
      | nil => exact z.elim
      | cons s st => simp only [List.length_cons, ih z.2.2.2.2]
  exact this I.sk
theorem w_openT {h : Addr} {as : List Addr} {st : List (List Code)} {δ : Ds} {x : DX} {k : Bool → Mu → Prop} (I : Inv μ0 μ h as st) (e : δ[1]? = some (some (.mref h))) (q : k (openS st) μ) : dOpenT δ μ x k := by
  rw [dOpenT]
  walk_at "d"
  refine ⟨_, e, ?_⟩
  rw [gLen_m I.mh]
  walk_at "d"
  have el := I.len
  cases as with
  | nil =>
    cases st with
    | nil => simpa [hp, openS] using q
    | cons s st => cases el
  | cons a as =>
    cases st with
    | nil => cases el
    | cons s st =>
      obtain ⟨h1, h2, h3, h4, h5⟩ := I.sk
      have e0 : (((hp (a :: as)).length : Nat) : Int) ≠ 0 := by rw [hp_len]; simp only [List.length_cons]; omega
      rw [if_neg (by simpa using e0)]
      refine ⟨_, e, ?_⟩
      rw [gIx_m I.mh, hp_cons]
      refine ⟨_, atI_last, ?_⟩
      rw [gLen_m h1]
      walk_at "d"
      have : decide ((((s.map codeD).length : Nat) : Int) < 2) = openS (s :: st) := by
        simp only [openS, List.length_map]; exact decide_eq_decide.mpr (by omega)
      rw [this]
      exact q
theorem w_shutT {h : Addr} {as : List Addr} {st : List (List Code)} {δ : Ds} {x : DX} {k : Bool → Mu → Prop} (I : Inv μ0 μ h as st) (e : δ[1]? = some (some (.mref h))) (q : k (shutS st) μ) : dShutT δ μ x k := by
  rw [dShutT]
  walk_at "d"
  refine ⟨_, e, ?_⟩
  rw [gLen_m I.mh]
  walk_at "d"
  have el := I.len
  cases as with
  | nil =>
    cases st with
    | nil => simpa [hp, shutS] using q
    | cons s st => cases el
  | cons a as =>
    cases st with
    | nil => cases el
    | cons s st =>
      obtain ⟨h1, h2, h3, h4, h5⟩ := I.sk
      have e0 : (0 : Int) < (((hp (a :: as)).length : Nat) : Int) := by rw [hp_len]; simp only [List.length_cons]; omega
      rw [if_pos (by simpa using e0)]
      refine ⟨_, e, ?_⟩
      rw [gIx_m I.mh, hp_cons]
      refine ⟨_, atI_last, ?_⟩
      rw [gLen_m h1]
      walk_at "d"
      have : ((((s.map codeD).length : Nat) : Int) == 2) = shutS (s :: st) := by
        simp only [shutS, List.length_map]
        rw [Bool.eq_iff_iff]
        simp only [beq_iff_eq]
        omega
      rw [this]
      exact q
def dueF (z : List Nat) (h : Addr) (dn : D) (o3 o4 o5 o6 o7 : Option D) : Ds := [some (.str (tx z)), some (.mref h), some dn, o3, o4, o5, o6, o7]
def NX (z : List Nat) (h : Addr) (E : DEnds) (dn : D) (μ : Mu) : Prop := ∀ o3 o4 o5 o6 o7, E.nx (dueF z h dn o3 o4 o5 o6 o7) μ
structure After (z : List Nat) (h : Addr) (E : DEnds) (μ0 : Mu) (c : Code) (as : List Addr) (st : List (List Code)) (μ : Mu) : Prop where
  one : st = [] → NX z h E (codeD c) μ
  more : ∀ a as' s st', as = a :: as' → st = s :: st' → ∀ μ', Inv μ0 μ' h (a :: as') ((s ++ [c]) :: st') → NX z h E .non μ'
theorem isNon_code (c : Code) : isNon (codeD c) = false := by cases c <;> rfl
theorem due_after {z : List Nat} {h : Addr} {E : DEnds} {c : Code} {as : List Addr} {st : List (List Code)} {o3 o4 o6 o7 : Option D} (I : Inv μ0 μ h as st) (hs : ∀ s st', st = s :: st' → s.length ≤ 2) (A : After z h E μ0 c as st μ) :
    dueAfter E (dueF z h .non o3 o4 (some (codeD c)) o6 o7) μ := by
  rw [dueAfter, dueF]
  walk_at "d"
  simp only [isNon_code]
  walk_at "d"
  rw [gLen_m I.mh]
  walk_at "d"
  have el := I.len
  cases as with
  | nil =>
    cases st with
    | nil =>
      rw [if_pos (by simp [hp])]
      exact A.one rfl _ _ _ _ _
    | cons s st => cases el
  | cons a as =>
    cases st with
    | nil => cases el
    | cons s st =>
      obtain ⟨h1, h2, h3, h4, h5⟩ := I.sk
      have e0 : (((hp (a :: as)).length : Nat) : Int) ≠ 0 := by rw [hp_len]; simp only [List.length_cons]; omega
      rw [if_neg (by simpa using e0)]
      simp only [dApp]
      walk_at "d"
      rw [gIx_m I.mh, hp_cons]
      refine ⟨_, atI_last, a, _, rfl, h1, ?_⟩
      try walk_at "d"
      have := line_big
      have := hs s st rfl
      refine ⟨_, h1, by rw [List.length_map]; omega, ?_⟩
      exact A.more a as s st rfl rfl _ (I.add c) _ _ _ _ _
theorem due_after_none {z : List Nat} {h : Addr} {E : DEnds} {o3 o4 o6 o7 : Option D} (A : NX z h E .non μ) : dueAfter E (dueF z h .non o3 o4 (some .non) o6 o7) μ := by
  rw [dueAfter, dueF]
  walk_at "d"
  simp only [isNon]
  walk_at "d"
  exact A _ _ _ _ _
theorem due_turn {z p rest : List Nat} {h : Addr} {as : List Addr} {st : List (List Code)} {E : DEnds} {o4 o5 o6 o7 : Option D} {s : Nat} (hz : z = p ++ s :: rest) (hl : z.length ≤ 1000) (I : Inv μ0 μ h as st)
    (hl2 : as.length ≤ 1000) (hs : ∀ s st', st = s :: st' → s.length ≤ 2)
    (h40 : s = 40 → openS st = true → ∀ a μ', Inv μ0 μ' h (a :: as) ([] :: st) → NX z h E .non μ')
    (hc : ∀ c, openS st = true → codeD c = .str (tx [s]) → s ≠ 40 → After z h E μ0 c as st μ)
    (h41 : s = 41 → ∀ f y a as' st', as = a :: as' → st = [f, y] :: st' → ∀ μ', Inv μ0 μ' h as' st' → After z h E μ0 (.use f y) as' st' μ')
    (hs2 : s = 41 → ∀ s' st' s2 st2, st = s' :: st' → st' = s2 :: st2 → s2.length ≤ 2)
    (hr : (openS st = true → s ≠ 40 ∧ s ≠ 66 ∧ s ≠ 67 ∧ s ≠ 73) → (openS st = false → s ≠ 41) → E.rt (bad p.length) μ) :
    dueBody E (dueF z h .non (some (.int (p.length : Nat))) o4 o5 o6 o7) μ := by
  have h3 := line_big
  have ea : atI (tx z).cps.toList ((p.length : Nat) : Int) = some s := atI_tx (by rw [hz]; simp)
  rw [dueBody, dueF]
  walk_at "d"
  refine ⟨by rw [tx_len]; omega, s, ea, ?_⟩
  simp only [isNon]
  walk_at "d"
  rw [s_op, s_cl, tx_one, tx_beq, tx_beq]
  have shut_rt : (openS st = true → s ≠ 40 ∧ s ≠ 66 ∧ s ≠ 67 ∧ s ≠ 73) → (openS st = false → s ≠ 41) → E.rt (.tup [.str "bad", .int (p.length : Nat)]) μ := hr
  have third : (openS st = true → s ≠ 40 ∧ s ≠ 66 ∧ s ≠ 67 ∧ s ≠ 73) → (if decide ([s] = [41]) = true then
      dShutT [some (D.str (tx z)), some (D.mref h), some D.non, some (D.int (p.length : Nat)), some (D.str (tx [s])), some D.non, o6, o7] μ E.ex fun b μ1 =>
        if b = true then
          dPop (dVar 1) [some (D.str (tx z)), some (D.mref h), some D.non, some (D.int (p.length : Nat)), some (D.str (tx [s])), some D.non, o6, o7] μ1 E.ex fun d μ1 => gIx d (D.int 0) μ1 fun d_1 μ1 => gIx d (D.int 1) μ1 fun d_2 μ1 =>
            dueAfter E [some (D.str (tx z)), some (D.mref h), some D.non, some (D.int (p.length : Nat)), some (D.str (tx [s])), some (D.tup [d_1, d_2]), some d, o7] μ1
        else E.rt (D.tup [D.str "bad", D.int (p.length : Nat)]) μ1
      else E.rt (D.tup [D.str "bad", D.int (p.length : Nat)]) μ) := fun hno => by
    by_cases e : s = 41
    · subst e
      rw [if_pos (by simp)]
      refine w_shutT I rfl ?_
      cases st with
      | nil => exact shut_rt hno (fun z => by cases z)
      | cons s0 st =>
        by_cases h2 : s0.length = 2
        · rw [if_pos (by simpa [shutS] using h2)]
          match s0, h2 with
          | [f, y], _ =>
            cases as with
            | nil => cases I.len
            | cons a as =>
              obtain ⟨h1, h2, h3, h4, h5⟩ := I.sk
              simp only [dPop]
              walk_at "d"
              refine ⟨h, _, .mref a, rfl, I.mh, by rw [hp_cons]; simp, ?_⟩
              have I2 := I.pop
              rw [hp_cons, List.dropLast_concat]
              have e2 : put μ h (.lst (hp as)) a = some (.lst [codeD f, codeD y]) := by rw [put_ne h3]; exact h1
              rw [gIx_m e2]
              walk_at "d"
              rw [gIx_m e2]
              walk_at "d"
              exact due_after (c := .use f y) I2 (fun s2 st2 e => hs2 rfl _ _ s2 st2 rfl e) (h41 rfl f y a as st rfl rfl _ I2)
        · rw [if_neg (by simpa [shutS] using h2)]
          have := hs s0 st rfl
          exact shut_rt hno (fun z => by simp [openS] at z; omega)
    · rw [if_neg (by simpa using e)]
      exact shut_rt hno fun _ => e
  have second : s ≠ 40 ∨ openS st = false → (gIn (D.str (tx [s])) (D.lst [D.str "B", D.str "C", D.str "I"]) μ fun d μ1 => ∃ b, d = D.bl b ∧ if b = true then
      dOpenT [some (D.str (tx z)), some (D.mref h), some D.non, some (D.int (p.length : Nat)), some (D.str (tx [s])), some D.non, o6, o7] μ1 E.ex fun b μ1 => if b = true then dueAfter E [some (D.str (tx z)), some (D.mref h), some D.non, some (D.int (p.length : Nat)), some (D.str (tx [s])), some (D.str (tx [s])), o6, o7] μ1
        else (if decide ([s] = [41]) = true then
      dShutT [some (D.str (tx z)), some (D.mref h), some D.non, some (D.int (p.length : Nat)), some (D.str (tx [s])), some D.non, o6, o7] μ1 E.ex fun b μ1 =>
        if b = true then
          dPop (dVar 1) [some (D.str (tx z)), some (D.mref h), some D.non, some (D.int (p.length : Nat)), some (D.str (tx [s])), some D.non, o6, o7] μ1 E.ex fun d μ1 => gIx d (D.int 0) μ1 fun d_1 μ1 => gIx d (D.int 1) μ1 fun d_2 μ1 =>
            dueAfter E [some (D.str (tx z)), some (D.mref h), some D.non, some (D.int (p.length : Nat)), some (D.str (tx [s])), some (D.tup [d_1, d_2]), some d, o7] μ1
        else E.rt (D.tup [D.str "bad", D.int (p.length : Nat)]) μ1
      else E.rt (D.tup [D.str "bad", D.int (p.length : Nat)]) μ1)
      else (if decide ([s] = [41]) = true then
      dShutT [some (D.str (tx z)), some (D.mref h), some D.non, some (D.int (p.length : Nat)), some (D.str (tx [s])), some D.non, o6, o7] μ1 E.ex fun b μ1 =>
        if b = true then
          dPop (dVar 1) [some (D.str (tx z)), some (D.mref h), some D.non, some (D.int (p.length : Nat)), some (D.str (tx [s])), some D.non, o6, o7] μ1 E.ex fun d μ1 => gIx d (D.int 0) μ1 fun d_1 μ1 => gIx d (D.int 1) μ1 fun d_2 μ1 =>
            dueAfter E [some (D.str (tx z)), some (D.mref h), some D.non, some (D.int (p.length : Nat)), some (D.str (tx [s])), some (D.tup [d_1, d_2]), some d, o7] μ1
        else E.rt (D.tup [D.str "bad", D.int (p.length : Nat)]) μ1
      else E.rt (D.tup [D.str "bad", D.int (p.length : Nat)]) μ1)) := fun hno => by
    rw [gIn_l (fun _ _ => trivial)]
    refine ⟨by simp [okD], by simp [okDs, okD], by simp [deepD, deepDs], _, rfl, ?_⟩
    rw [← tx_one, signs_in]
    by_cases e : s = 66 ∨ s = 67 ∨ s = 73
    · rw [if_pos (by simpa using e)]
      refine w_openT I rfl ?_
      by_cases ho : openS st = true
      · rw [if_pos ho]
        rcases e with e | e | e
        · subst e; exact due_after (c := .B) I hs (hc .B ho rfl (by omega))
        · subst e; exact due_after (c := .C) I hs (hc .C ho rfl (by omega))
        · subst e; exact due_after (c := .I) I hs (hc .I ho rfl (by omega))
      · rw [if_neg ho]
        exact third fun z => absurd z ho
    · rw [if_neg (by simpa using e)]
      exact third fun z => ⟨(by
        rcases hno with h1 | h1
        · exact h1
        · rw [z] at h1; cases h1), fun q => e (.inl q), fun q => e (.inr (.inl q)), fun q => e (.inr (.inr q))⟩
  by_cases e : s = 40
  · rw [if_pos (by simpa using e)]
    refine w_openT I rfl ?_
    by_cases ho : openS st = true
    · rw [if_pos ho]
      simp only [dApp, dNew]
      walk_at "d"
      refine ⟨h, _, rfl, I.mh, fun a ha => ?_⟩
      have nh : h ≠ a := fun z => by rw [← z, I.mh] at ha; cases ha
      refine ⟨_, by rw [put_ne nh]; exact I.mh, by rw [hp_len]; omega, ?_⟩
      exact due_after_none (h40 e ho a _ (I.new ha))
    · rw [if_neg ho]
      exact second (.inr (by simpa using ho))
  · rw [if_neg (by simpa using e)]
    exact second (.inl e)

def Lp (z : List Nat) (h : Addr) (E : DEnds) (p rest : List Nat) (dn : D) (μ : Mu) : Prop := ∀ o3 o4 o5 o6 o7, forD (gdName 3) dueBody (fun _ => True) E (rngD (p.length : Nat) rest.length) (dueF z h dn o3 o4 o5 o6 o7) μ
theorem lp_nil {z p : List Nat} {h : Addr} {E : DEnds} {dn : D} (q : NX z h E dn μ) : Lp z h E p [] dn μ := fun o3 o4 o5 o6 o7 => ⟨trivial, q _ _ _ _ _⟩
/-- a sign behind the whole -/
theorem lp_done {z p rest : List Nat} {h : Addr} {E : DEnds} {c : Code} {s : Nat} (hz : z = p ++ s :: rest) (hl : z.length ≤ 1000) (q : E.rt (bad p.length) μ) : Lp z h E p (s :: rest) (codeD c) μ := fun o3 o4 o5 o6 o7 => by
  have h3 := line_big
  have ea : atI (tx z).cps.toList ((p.length : Nat) : Int) = some s := atI_tx (by rw [hz]; simp)
  rw [List.length_cons, rngD_succ]
  refine ⟨trivial, ?_⟩
  rw [dueBody, dueF]
  walk_at "d"
  refine ⟨by rw [tx_len]; omega, s, ea, ?_⟩
  simp only [isNon_code]
  walk_at "d"
  exact q
/-- one sign -/
theorem lp_turn {z p rest : List Nat} {h : Addr} {as : List Addr} {st : List (List Code)} {E : DEnds} {s : Nat} (hz : z = p ++ s :: rest) (hl : z.length ≤ 1000) (I : Inv μ0 μ h as st)
    (hl2 : as.length ≤ p.length) (hs : ∀ s ∈ st, s.length ≤ 2)
    (h40 : s = 40 → openS st = true → ∀ a μ', Inv μ0 μ' h (a :: as) ([] :: st) → Lp z h E (p ++ [s]) rest .non μ')
    (hc : ∀ c, openS st = true → codeD c = .str (tx [s]) → s ≠ 40 → (st = [] → Lp z h E (p ++ [s]) rest (codeD c) μ) ∧ (∀ a as' s' st', as = a :: as' → st = s' :: st' → ∀ μ', Inv μ0 μ' h (a :: as') ((s' ++ [c]) :: st') → Lp z h E (p ++ [s]) rest .non μ'))
    (h41 : s = 41 → ∀ f y a as' st', as = a :: as' → st = [f, y] :: st' → ∀ μ', Inv μ0 μ' h as' st' → (st' = [] → Lp z h E (p ++ [s]) rest (codeD (.use f y)) μ') ∧ (∀ a as2 s' st2, as' = a :: as2 → st' = s' :: st2 → ∀ μ2, Inv μ0 μ2 h (a :: as2) ((s' ++ [.use f y]) :: st2) → Lp z h E (p ++ [s]) rest .non μ2))
    (hr : (openS st = true → s ≠ 40 ∧ s ≠ 66 ∧ s ≠ 67 ∧ s ≠ 73) → (openS st = false → s ≠ 41) → E.rt (bad p.length) μ) : Lp z h E p (s :: rest) .non μ := fun o3 o4 o5 o6 o7 => by
  rw [List.length_cons, rngD_succ]
  refine ⟨trivial, ?_⟩
  have e1 : ((p.length : Nat) : Int) + 1 = (((p ++ [s]).length : Nat) : Int) := by simp
  rw [e1]
  have l1 : z.length = p.length + (rest.length + 1) := by rw [hz]; simp
  refine due_turn (E := { E with nx := forD (gdName 3) dueBody (fun _ => True) E (rngD (((p ++ [s]).length : Nat) : Int) rest.length), ct := forD (gdName 3) dueBody (fun _ => True) E (rngD (((p ++ [s]).length : Nat) : Int) rest.length), bk := E.nx })
    hz hl I (by omega) (fun s' st' e => hs s' (by rw [e]; exact List.mem_cons_self)) h40 (fun c h1 h2 h3 => ⟨(hc c h1 h2 h3).1, (hc c h1 h2 h3).2⟩)
    (fun e f y a as' st' e1 e2 μ' I' => ⟨(h41 e f y a as' st' e1 e2 μ' I').1, (h41 e f y a as' st' e1 e2 μ' I').2⟩) (fun _ s' st' s2 st2 e1 e2 => hs s2 (by rw [e1, e2]; simp)) hr
theorem due_loop {z : List Nat} {h : Addr} {E : DEnds} (hl : z.length ≤ 1000) : ∀ (n : Nat) (p rest : List Nat) (as : List Addr) (st : List (List Code)) (μ : Mu), z = p ++ rest → opens rest < n → openS st = true → as.length ≤ p.length → (∀ s ∈ st, s.length ≤ 2) → Inv μ0 μ h as st →
    (∀ e, parse n rest = .err e → ∀ μ', SubM μ0 μ' → E.rt (bad (z.length - e.length)) μ' ∧ (e = [] → NX z h E .non μ')) →
    (∀ c r p', parse n rest = .ok c r → z = p' ++ r → (st = [] → ∀ μ', Inv μ0 μ' h as st → Lp z h E p' r (codeD c) μ') ∧ (∀ a as' s st', as = a :: as' → st = s :: st' → ∀ μ', Inv μ0 μ' h (a :: as') ((s ++ [c]) :: st') → Lp z h E p' r .non μ')) →
    Lp z h E p rest .non μ
  | 0, _, _, _, _, _, _, z, _, _, _, _, _, _ => absurd z (Nat.not_lt_zero _)
  | n + 1, p, [], as, st, μ, hz, hn, ho, ha, hs, I, he, hk => lp_nil ((he [] rfl μ I.sub).2 rfl)
  | n + 1, p, s :: r, as, st, μ, hz, hn, ho, ha, hs, I, he, hk => by
    have hz1 : z = (p ++ [s]) ++ r := by rw [hz]; simp
    have lp : z.length - (s :: r).length = p.length := by rw [hz, List.length_append]; omega
    refine lp_turn hz hl I ha hs (fun e _ a μ' I1 => ?_) (fun c _ e1 e2 => ?_) (fun e f y a as' st' e1 e2 => ?_) fun h1 h2 => ?_
    · subst e
      rw [opens_cons, if_pos rfl] at hn
      refine due_loop hl n _ r (a :: as) ([] :: st) μ' hz1 (by omega) rfl (by simp only [List.length_cons, List.length_append, List.length_nil]; omega) (fun s' m => ?_) I1 (fun e q => he e (by simp only [parse, if_true, q])) fun f r1 p1 q hzz => ⟨fun z => (by cases z), fun a1 as1 s1 st1 w1 w2 μ1 I2 => ?_⟩
      · rcases List.mem_cons.mp m with m | m
        · rw [m]; simp
        · exact hs s' m
      · cases w1; cases w2
        have hr := parse_ok _ _ _ _ q
        have on1 : opens r1 < n := by rw [hr, opens_app] at hn; omega
        have lq : p1.length = (p ++ [40]).length + f.txt.length := by
          have h1 := congrArg List.length hz1
          have h2 := congrArg List.length hzz
          have h3 := congrArg List.length hr
          simp only [List.length_append] at h1 h2 h3 ⊢
          omega
        have lq2 : p1.length = p.length + 1 + f.txt.length := by rw [lq]; simp
        refine due_loop hl n p1 r1 (a :: as) (([] ++ [f]) :: st) μ1 hzz on1 rfl (by simp only [List.length_cons]; omega) (fun s' m => ?_) I2 (fun e q2 => he e (by simp only [parse, if_true, q, q2])) fun y r2 p2 q2 hz2 => ⟨fun z => (by cases z), fun a1 as1 s1 st1 w1 w2 μ2 I3 => ?_⟩
        · rcases List.mem_cons.mp m with m | m
          · rw [m]; simp
          · exact hs s' m
        · cases w1; cases w2
          have hr2 := parse_ok _ _ _ _ q2
          have lp2 : p1.length ≤ p2.length := by
            have h2 := congrArg List.length hzz
            have h3 := congrArg List.length hz2
            have h4 := congrArg List.length hr2
            simp only [List.length_append] at h2 h3 h4
            omega
          have I4 : Inv μ0 μ2 h (a :: as) ([f, y] :: st) := I3
          cases r2 with
          | nil => exact lp_nil ((he [] (by simp only [parse, if_true, q, q2, shut]) μ2 I4.sub).2 rfl)
          | cons s3 r3 =>
            have hz3 : z = (p2 ++ [s3]) ++ r3 := by rw [hz2]; simp
            refine lp_turn hz2 hl I4 (by simp only [List.length_cons]; omega) (fun s' m => ?_) (fun _ z => (by cases z)) (fun _ z => (by cases z)) (fun e f' y' a' as' st' e1 e2 μ3 I5 => ?_) fun h1 h2 => ?_
            · rcases List.mem_cons.mp m with m | m
              · rw [m]; simp
              · exact hs s' m
            · subst e
              cases e1; cases e2
              have := hk (.use f y) r3 (p2 ++ [41]) (by simp only [parse, if_true, q, q2, shut]) hz3
              exact ⟨fun e => this.1 e μ3 I5, fun a as2 s' st2 e1 e2 μ4 I6 => this.2 a as2 s' st2 e1 e2 μ4 I6⟩
            · have n41 := h2 rfl
              have := (he (s3 :: r3) (by simp only [parse, if_true, q, q2, shut, if_neg n41]) μ2 I4.sub).1
              rw [show z.length - (s3 :: r3).length = p2.length by rw [hz2, List.length_append]; omega] at this
              exact this
    · have := hk c r (p ++ [s]) (by
        cases c with
        | use f y => cases e1
        | B =>
          have : s = 66 := by have := (D.str.inj e1); have := congrArg (fun s : Str => s.cps.toList) this; simpa [tx] using this.symm
          subst this; rfl
        | C =>
          have : s = 67 := by have := (D.str.inj e1); have := congrArg (fun s : Str => s.cps.toList) this; simpa [tx] using this.symm
          subst this; rfl
        | I =>
          have : s = 73 := by have := (D.str.inj e1); have := congrArg (fun s : Str => s.cps.toList) this; simpa [tx] using this.symm
          subst this; rfl) hz1
      exact ⟨fun e => this.1 e μ I, this.2⟩
    · subst e2
      cases ho
    · have h3 := h1 ho
      have := (he (s :: r) (by simp only [parse, h3.1, h3.2.1, h3.2.2.1, h3.2.2.2, if_false]) μ I.sub).1
      rw [lp] at this
      exact this
end
end Once

namespace Once
open PySem PySem.Spec PyProof.Rows L2
local macro_rules | `(tactic| walk_at "d") => `(tactic| simp only [dSeq, dNext, dRet, dRetN, dDrop, dIf, dB, dOp, dVar, dC, dNil, dCons, dTup, dLst, dCall, dSet, dUnp, gdTup_t, gdCons_c, gdName, gdNil_n, dAnd, dOr, dNot, dAndV, dOrV, dNotV, dIfE, dIsi, dIsN, dNotN, dB1, dCut, dNoPart, dPart, dNeg, bodyF, startD, bodies, dRaise1,
  List.map_cons, List.map_nil, List.length_cons, List.length_nil, Nat.reduceAdd, Nat.reduceSub, List.replicate_succ, List.replicate_zero, List.cons_append, List.nil_append, List.append_nil, Nat.zero_add,
  List.getElem?_cons_zero, List.getElem?_cons_succ, Option.some.injEq, exists_eq_left', exists_eq_left, List.set_cons_zero, List.set_cons_succ, D.bl.injEq, D.int.injEq, D.str.injEq, D.tup.injEq, List.cons.injEq, and_true, true_and, Bool.not_true, Bool.not_false, if_true, if_false, Bool.false_eq_true, reduceCtorEq,
  gAdd_ii, gAdd_ss, gAdd_ll, gSub_ii, gMul_ii, gDiv_ii, gMod_ii, gPow_ii, gInt0_ii, gLt_ii, gLe_ii, gGt_ii, gGe_ii, gEq_ii, gEq_ss, gEq_bb, gNe_ii, gNe_ss, gNe_bb, gIx_t, gIx_s, gIx_l, atI_0, atI_1, atI_2, atI_3, gLen_s, gLen_t, gLen_l, gCut_l, gCut_s, gAbs_i, gIntOf_i, gIn_s, gNotIn_s])


def sgn (s : Nat) : Bool := decide (s ∈ [66, 67, 73])
theorem sgn_txt : ∀ c : Code, (c.txt.filter sgn).length = c.size
  | .B => rfl
  | .C => rfl
  | .I => rfl
  | .use f x => by
    have h1 := sgn_txt f
    have h2 := sgn_txt x
    have e1 : sgn 40 = false := rfl
    have e2 : sgn 41 = false := rfl
    simp only [Code.txt, Code.size, List.filter_cons, List.filter_append, List.length_append, e1, e2, h1, h2, List.filter_nil, List.length_nil, Bool.false_eq_true, if_false]
    omega
theorem s_BCI : ("BCI" : Str) = tx [66, 67, 73] := rfl
section
variable {k : Nat} {μ μ0 : Mu} {x : DXF} {Q : DK}
theorem w_cnt {δ : Ds} {a : Addr} {kk : List D → Mu → Prop} (hδ : ∀ d, (δ.set 7 d)[7]? = some d) (ha : μ a = none) : ∀ (l : List Nat) (acc : List D), acc.length + l.length ≤ 100000 → (∀ acc' : List D, acc'.length = acc.length + (l.filter sgn).length → kk acc' μ) →
    compD 7 (dB (dOp gIn (dVar 7) (dC (.str "BCI")))) (dVar 7) δ (fun _ => True) a kk (l.map fun c => .str ⟨#[c]⟩) acc μ
  | [], acc, _, h => ⟨trivial, h acc (by simp)⟩
  | s :: l, acc, hl, h => by
    have h3 := line_big
    refine ⟨trivial, ?_⟩
    simp only [List.length_cons] at hl
    simp only [dB, dOp, dVar, dC]
    refine ⟨_, hδ _, ?_⟩
    rw [gIn_s, s_BCI, tx_cps]
    refine ⟨_, rfl, ?_⟩
    show if sgn s = true then _ else _
    cases e : sgn s with
    | true =>
      refine ⟨_, hδ _, μ, rfl, ha, by omega, w_cnt hδ ha l _ (by simp only [List.length_append, List.length_cons, List.length_nil]; omega) fun acc' e2 => h acc' ?_⟩
      rw [e2, List.filter_cons, e]
      simp only [List.length_append, List.length_cons, List.length_nil, if_true]
      omega
    | false =>
      refine ⟨μ, rfl, ha, w_cnt hδ ha l _ (by omega) fun acc' e2 => h acc' ?_⟩
      rw [e2, List.filter_cons, e]
      simp
theorem w_due {z : List Nat} (hl : z.length ≤ 1000) (h : Q (ans z) μ0) : WW (k + 1) 12 [.str (tx z)] μ0 x Q := by
  have h3 := line_big
  rw [u__law_due, due_is]
  simp only [bodyG, lessF]
  walk_at "d"
  simp only [dNew, dFor, dRng1]
  walk_at "d"
  intro a ha
  refine ⟨by rw [tx_len]; omega, by rw [tx_len]; omega, by rw [tx_len]; omega, ?_⟩
  rw [tx_len]
  have I : Inv μ0 (put μ0 a (.lst [])) a [] [] := ⟨fun b o e => by
      have : b ≠ a := fun z => by rw [z, ha] at e; cases e
      rw [put_ne this]; exact e, ha, put_same, trivial⟩
  have loop := fun (E : DEnds) => due_loop (μ0 := μ0) (z := z) (h := a) (E := E) hl (opens z + 1) [] z [] [] _ rfl (Nat.lt_succ_self _) rfl (Nat.le_refl _) (fun _ m => by cases m) I
  refine loop _ (fun e q μ' hs => ?_) (fun c r p' q hz => ?_) none none none none none
  · refine ⟨⟨μ0, hs, ?_⟩, fun ee o3 o4 o5 o6 o7 => ?_⟩
    · have : ans z = bad (z.length - e.length) := by unfold ans; rw [q]; rfl
      rw [← this]; exact h
    · subst ee
      have : ans z = bad z.length := by unfold ans; rw [q]; rfl
      rw [this] at h
      simp only [dueEnd, dueF]
      walk_at "d"
      simp only [isNon]
      walk_at "d"
      exact ⟨by rw [tx_len]; omega, μ0, hs, by rw [tx_len]; exact h⟩
  · refine ⟨fun _ μ' I' => ?_, fun _ _ _ _ w => (by cases w)⟩
    have e1 : ans z = endA z c r := by unfold ans; rw [q]; rfl
    have hz2 := parse_ok _ _ _ _ q
    cases r with
    | cons s r =>
      refine lp_done hz hl ⟨μ0, I'.sub, ?_⟩
      have : ans z = bad p'.length := by
        rw [e1]
        show bad (z.length - (s :: r).length) = _
        rw [show z.length - (s :: r).length = p'.length by rw [hz, List.length_append]; omega]
      rw [← this]; exact h
    | nil =>
      refine lp_nil fun o3 o4 o5 o6 o7 => ?_
      simp only [dueEnd, dueF]
      walk_at "d"
      simp only [isNon_code]
      simp only [dComp, dIterS]
      walk_at "d"
      intro b hb
      have es : signsD (tx z) = z.map fun c => .str ⟨#[c]⟩ := by unfold signsD; rw [tx_cps]
      rw [es]
      refine w_cnt (fun d => rfl) hb z [] (by simp; omega) fun acc' e2 => ?_
      have e3 : acc'.length = c.size := by
        rw [e2, ← sgn_txt c]
        have : z = c.txt := by rw [hz2]; simp
        rw [this]; simp
      rw [e1] at h
      rw [e3]
      by_cases hs : c.size ≤ 120
      · rw [if_neg (by rw [decide_eq_true_eq]; omega)]
        exact ⟨μ0, I'.sub, by rw [show endA z c [] = codeA c from if_pos hs] at h; exact h⟩
      · rw [if_pos (by rw [decide_eq_true_eq]; omega)]
        exact ⟨by rw [tx_len]; omega, μ0, I'.sub, by rw [show endA z c [] = bad z.length from if_neg hs] at h; rw [tx_len]; exact h⟩
/-! ### the texts of the law -/
theorem w_code_text : ∀ (c : Code) (k : Nat) (Q : DK), c.size ≤ 1000 → c.deep + 2 ≤ k → Q (.str (tx c.txt)) μ → WW k 10 [codeD c] μ x Q := by
  intro c
  induction c with
  | use f y hf hy =>
    intro k Q hs hk h
    obtain ⟨k, rfl⟩ : ∃ j, k = j + 2 := ⟨k - 2, by simp only [Code.deep] at hk; omega⟩
    simp only [Code.deep] at hk
    simp only [Code.size] at hs
    have h1 := f.txt_len
    have h2 := y.txt_len
    have h3 := line_big
    rw [u__law_code_text, b__law_code_text]
    simp only [codeD]
    walk_at "d"
    refine ⟨trivial, ?_⟩
    simp only [isStr]
    walk_at "d"
    refine hf _ _ (by omega) (by omega) ?_
    walk_at "d"
    rw [s_op, s_cl, tx_app]
    refine ⟨by simp only [tx_len, List.length_cons, List.length_nil]; omega, hy _ _ (by omega) (by omega) ?_⟩
    walk_at "d"
    rw [tx_app, tx_app]
    refine ⟨by simp only [tx_len, List.length_cons, List.length_nil, List.length_append]; omega, by simp only [tx_len, List.length_cons, List.length_nil, List.length_append]; omega, ?_⟩
    simpa [Code.txt] using h
  | _ =>
    intro k Q hs hk h
    obtain ⟨k, rfl⟩ : ∃ j, k = j + 2 := ⟨k - 2, by simp only [Code.deep] at hk; omega⟩
    rw [u__law_code_text, b__law_code_text]
    simp only [codeD]
    walk_at "d"
    refine ⟨trivial, ?_⟩
    simp only [isStr]
    walk_at "d"
    simpa [Code.txt, codeD] using h
end
end Once

namespace Once
open PySem PySem.Spec PyProof.Rows L2
local macro_rules | `(tactic| walk_at "d") => `(tactic| simp only [dSeq, dNext, dRet, dRetN, dDrop, dIf, dB, dOp, dVar, dC, dNil, dCons, dTup, dLst, dCall, dSet, dUnp, gdTup_t, gdCons_c, gdName, gdNil_n, dAnd, dOr, dNot, dAndV, dOrV, dNotV, dIfE, dIsi, dIsN, dNotN, dB1, dCut, dNoPart, dPart, dNeg, bodyF, startD, bodies, dRaise1,
  List.map_cons, List.map_nil, List.length_cons, List.length_nil, Nat.reduceAdd, Nat.reduceSub, List.replicate_succ, List.replicate_zero, List.cons_append, List.nil_append, List.append_nil, Nat.zero_add,
  List.getElem?_cons_zero, List.getElem?_cons_succ, Option.some.injEq, exists_eq_left', exists_eq_left, List.set_cons_zero, List.set_cons_succ, D.bl.injEq, D.int.injEq, D.str.injEq, D.tup.injEq, List.cons.injEq, and_true, true_and, Bool.not_true, Bool.not_false, if_true, if_false, Bool.false_eq_true, reduceCtorEq,
  gAdd_ii, gAdd_ss, gAdd_ll, gSub_ii, gMul_ii, gDiv_ii, gMod_ii, gPow_ii, gInt0_ii, gLt_ii, gLe_ii, gGt_ii, gGe_ii, gEq_ii, gEq_ss, gEq_bb, gNe_ii, gNe_ss, gNe_bb, gIx_t, gIx_s, gIx_l, atI_0, atI_1, atI_2, atI_3, gLen_s, gLen_t, gLen_l, gCut_l, gCut_s, gAbs_i, gIntOf_i, gIn_s, gNotIn_s])


theorem cutD_pre {xs : List D} {n : Nat} : cutD xs none (some (n : Int)) = xs.take n := by
  simp only [cutD, HT.sIx]
  rw [if_neg (by omega)]
  simp only [Int.toNat_natCast, List.drop_zero, Nat.sub_zero]
  rcases Nat.le_total n xs.length with h | h
  · rw [Nat.min_eq_left h]
  · rw [Nat.min_eq_right h, List.take_of_length_le (Nat.le_refl _), List.take_of_length_le h]
theorem cutD_suf {xs : List D} {n : Nat} : cutD xs (some (n : Int)) none = xs.drop n := by
  simp only [cutD, HT.sIx]
  rw [if_neg (by omega)]
  simp only [Int.toNat_natCast]
  rw [List.take_of_length_le (by rw [List.length_drop]; omega)]
  rcases Nat.le_total n xs.length with h | h
  · rw [Nat.min_eq_left h]
  · rw [Nat.min_eq_right h, List.drop_of_length_le (Nat.le_refl _), List.drop_of_length_le h]
theorem cutS_pre {z : List Nat} {n : Nat} : cutS (tx z) none (some (n : Int)) = tx (z.take n) := by
  have e : (tx z).length = z.length := tx_len z
  simp only [cutS, HT.sIx, e, tx_cps]
  rw [if_neg (by omega)]
  simp only [Int.toNat_natCast, List.drop_zero, Nat.sub_zero]
  rcases Nat.le_total n z.length with h | h
  · rw [Nat.min_eq_left h]; rfl
  · rw [Nat.min_eq_right h, List.take_of_length_le (Nat.le_refl _), List.take_of_length_le h]; rfl
theorem cutS_suf {z : List Nat} {n : Nat} : cutS (tx z) (some (n : Int)) none = tx (z.drop n) := by
  have e : (tx z).length = z.length := tx_len z
  simp only [cutS, HT.sIx, e, tx_cps]
  rw [if_neg (by omega)]
  simp only [Int.toNat_natCast]
  rw [List.take_of_length_le (by rw [List.length_drop]; omega)]
  rcases Nat.le_total n z.length with h | h
  · rw [Nat.min_eq_left h]; rfl
  · rw [Nat.min_eq_right h, List.drop_of_length_le (Nat.le_refl _), List.drop_of_length_le h]; rfl
theorem put_cut {μ : Mu} {a : Addr} {m : MO} (h : μ a = some m) : put (cut μ a) a m = μ := by
  funext b; unfold put cut
  by_cases e : b = a
  · subst e; rw [if_pos rfl, h]
  · rw [if_neg e, if_neg e]
section
variable {k : Nat} {μ : Mu} {x : DXF} {Q : DK}
theorem FeedAt.ne {a b : Addr} (h : FeedAt μ a) (hb : μ b = none) : a ≠ b := by
  obtain ⟨ns, i, big, seed, e, _⟩ := h
  intro z; rw [z, hb] at e; cases e
/-- a list of drawn things -/
theorem w_compDraw {a b : Addr} {i : Nat} {te : DE} {δ : Ds} (P : D → Prop)
    (hte : ∀ (d : D) (μ : Mu) (kk : DK), FeedAt μ a → (∀ y μ', P y → FeedAt μ' a → But a μ μ' → kk y μ') → te (δ.set i (some d)) μ noX kk) :
    ∀ (items acc : List D) (μ : Mu) (kk : List D → Mu → Prop), FeedAt μ a → μ b = none → acc.length + items.length ≤ 100000 →
      (∀ ys μ', ys.length = items.length → (∀ y ∈ ys, P y) → FeedAt μ' a → kk (acc ++ ys) μ') → compD i dYes te δ (fun _ => True) b kk items acc μ
  | [], acc, μ, kk, hf, hb, hl, h => ⟨trivial, by simpa using h [] μ rfl (by simp) hf⟩
  | d :: r, acc, μ, kk, hf, hb, hl, h => by
    have h3 := line_big
    simp only [List.length_cons] at hl
    have nb := hf.ne hb
    refine ⟨trivial, ?_⟩
    simp only [dYes, if_true]
    refine hte d _ _ (hf.put_other nb) fun y μ' hy hf' hbut => ?_
    have eb : μ' b = some (.lst acc) := by rw [hbut b nb.symm, put_same]
    refine ⟨cut μ' b, (put_cut eb).symm, cut_same, by omega, ?_⟩
    have hf2 : FeedAt (cut μ' b) a := by
      obtain ⟨ns, i, big, seed, e, r⟩ := hf'
      exact ⟨ns, i, big, seed, by rw [cut_ne nb]; exact e, r⟩
    refine w_compDraw P hte r _ _ kk hf2 cut_same (by simp only [List.length_append, List.length_cons, List.length_nil]; omega) fun ys μ2 e1 e2 e3 => ?_
    rw [List.append_assoc]
    refine h _ μ2 (by simp [e1]) (fun z m => ?_) e3
    rcases List.mem_cons.mp (by simpa using m) with m | m
    · rw [m]; exact hy
    · exact e2 z m
def sizes (cs : List Code) : Nat := (cs.map Code.size).sum
theorem sizes_app (a b : List Code) : sizes (a ++ b) = sizes a + sizes b := by simp [sizes]
theorem sizes_nil : sizes [] = 0 := rfl
theorem sizes_cons (a : Code) (b : List Code) : sizes (a :: b) = a.size + sizes b := by simp [sizes]
theorem cs_among {ys : List D} (h : ∀ y ∈ ys, ∃ c : Code, y = codeD c ∧ c.size = 1) : ∃ cs : List Code, ys = cs.map codeD ∧ sizes cs = ys.length := by
  induction ys with
  | nil => exact ⟨[], rfl, rfl⟩
  | cons y ys ih =>
    obtain ⟨c, e1, e2⟩ := h y List.mem_cons_self
    obtain ⟨cs, e3, e4⟩ := ih fun z m => h z (List.mem_cons_of_mem _ m)
    exact ⟨c :: cs, by rw [e1, e3]; rfl, by rw [sizes_cons, e2, e4, List.length_cons]; omega⟩
def scStep (W : Nat → DF) : DS := (dIf (dB (dOp gGt (dB1 gLen (dCons (dVar 2) dNil)) (dC (.int 1)))) (dSeq (dSet 5 (dCall (W 7) (dCons (dVar 0) (dCons (dOp gSub (dB1 gLen (dCons (dVar 2) dNil)) (dC (.int 1))) dNil))))
      (dSeq (dIf (dB (dOp gEq (dCall (W 7) (dCons (dVar 0) (dCons (dC (.int 2)) dNil))) (dC (.int 0)))) (dSet 5 (dC (.int 0))) dNext)
      (dSet 2 (dOp gAdd (dOp gAdd (dCut (dVar 2) dNoPart (dPart (dVar 5))) (dLst (dCons (dTup (dCons (dOp gIx (dVar 2) (dVar 5)) (dCons (dOp gIx (dVar 2) (dOp gAdd (dVar 5) (dC (.int 1)))) dNil))) dNil))) (dCut (dVar 2) (dPart (dOp gAdd (dVar 5) (dC (.int 2)))) dNoPart))))) dNext)
theorem sc_is (W : Nat → DF) : b__law_some_code W = (dSeq (dSet 2 (dComp (dRng1 (dCons (dOp gAdd (dC (.int 1)) (dCall (W 7) (dCons (dVar 0) (dCons (dVar 1) dNil)))) dNil)) 4 dYes (dOp gIx (dLst (dCons (dC (.str "B")) (dCons (dC (.str "C")) (dCons (dC (.str "I")) (dCons (dC (.str "B")) dNil))))) (dCall (W 7) (dCons (dVar 0) (dCons (dC (.int 4)) dNil))))))
      (dSeq (dFor (dRng1 (dCons (dVar 1) dNil)) (gdName 3) (scStep W))
      (dRet (dOp gIx (dVar 2) (dC (.int 0)))))) := rfl
theorem w_scStep {a : Addr} {E : DEnds} {o1 o3 o4 o5 : Option D} {cs : List Code} (hf : FeedAt μ a) (h0 : cs ≠ []) (hs : sizes cs ≤ 1000)
    (h : ∀ cs' μ' o5', cs' ≠ [] → sizes cs' = sizes cs → FeedAt μ' a → E.nx [some (.mref a), o1, some (.lst (cs'.map codeD)), o3, o4, o5'] μ') :
    scStep (WW (k + 1)) E [some (.mref a), o1, some (.lst (cs.map codeD)), o3, o4, o5] μ := by
  have h3 := line_big
  have hlen : ∀ cs : List Code, cs.length ≤ sizes cs := fun cs => by
    induction cs with
    | nil => exact Nat.zero_le _
    | cons c cs ih => have := c.pos; rw [sizes_cons, List.length_cons]; omega
  have hl := hlen cs
  rw [scStep]
  walk_at "d"
  by_cases h1 : 1 < cs.length
  · rw [if_pos (by rw [List.length_map, decide_eq_true_eq]; omega)]
    refine w_draw hf (by rw [List.length_map]; omega) (by rw [List.length_map]; omega) fun r μ1 r0 r1 hf1 _ => ?_
    rw [List.length_map] at r1
    walk_at "d"
    have core : ∀ (n : Nat) (μ2 : Mu), n + 1 < cs.length → FeedAt μ2 a → (((cs.map codeD).take n).length + 1 ≤ sizeLine) ∧ True := fun n μ2 _ _ => ⟨by rw [List.length_take, List.length_map]; omega, trivial⟩
    have fin : ∀ (n : Nat) (μ2 : Mu), n + 1 < cs.length → FeedAt μ2 a → dSet 2 (dOp gAdd (dOp gAdd (dCut (dVar 2) dNoPart (dPart (dVar 5))) (dLst (dCons (dTup (dCons (dOp gIx (dVar 2) (dVar 5)) (dCons (dOp gIx (dVar 2) (dOp gAdd (dVar 5) (dC (.int 1)))) dNil))) dNil))) (dCut (dVar 2) (dPart (dOp gAdd (dVar 5) (dC (.int 2)))) dNoPart)) E [some (.mref a), o1, some (.lst (cs.map codeD)), o3, o4, some (.int (n : Nat))] μ2 := fun n μ2 hn hf2 => by
      walk_at "d"
      have hn1 : n < cs.length := by omega
      refine ⟨codeD cs[n], atI_nat (by rw [List.getElem?_map, List.getElem?_eq_getElem hn1]; rfl), codeD cs[n + 1], ?_, ?_⟩
      · rw [show ((n : Nat) : Int) + 1 = ((n + 1 : Nat) : Int) by omega]
        exact atI_nat (by rw [List.getElem?_map, List.getElem?_eq_getElem hn]; rfl)
      · rw [cutD_pre, show ((n : Nat) : Int) + 2 = ((n + 2 : Nat) : Int) by omega, cutD_suf]
        simp only [List.length_take, List.length_map, List.length_cons, List.length_nil, List.length_append, List.length_drop]
        refine ⟨by omega, by omega, ?_⟩
        have ec : cs = cs.take n ++ cs[n] :: cs[n + 1] :: cs.drop (n + 2) := by
          rw [← List.drop_eq_getElem_cons hn, ← List.drop_eq_getElem_cons hn1, List.take_append_drop]
        have := h (cs.take n ++ [.use cs[n] cs[n + 1]] ++ cs.drop (n + 2)) μ2 (some (.int (n : Nat))) (by simp) (by
          rw [congrArg sizes ec]
          simp only [sizes_app, sizes_cons, Code.size, sizes_nil]
          omega) hf2
        simpa [codeD] using this
    have pick : ∀ (r2 : Int) (μ2 : Mu), FeedAt μ2 a → (if (r2 == 0) = true then dSet 2 (dOp gAdd (dOp gAdd (dCut (dVar 2) dNoPart (dPart (dVar 5))) (dLst (dCons (dTup (dCons (dOp gIx (dVar 2) (dVar 5)) (dCons (dOp gIx (dVar 2) (dOp gAdd (dVar 5) (dC (.int 1)))) dNil))) dNil))) (dCut (dVar 2) (dPart (dOp gAdd (dVar 5) (dC (.int 2)))) dNoPart)) E [some (.mref a), o1, some (.lst (cs.map codeD)), o3, o4, some (.int 0)] μ2
        else dSet 2 (dOp gAdd (dOp gAdd (dCut (dVar 2) dNoPart (dPart (dVar 5))) (dLst (dCons (dTup (dCons (dOp gIx (dVar 2) (dVar 5)) (dCons (dOp gIx (dVar 2) (dOp gAdd (dVar 5) (dC (.int 1)))) dNil))) dNil))) (dCut (dVar 2) (dPart (dOp gAdd (dVar 5) (dC (.int 2)))) dNoPart)) E [some (.mref a), o1, some (.lst (cs.map codeD)), o3, o4, some (.int r)] μ2) := fun r2 μ2 hf2 => by
      by_cases hr : r2 = 0
      · rw [if_pos (by simpa using hr)]
        exact fin 0 μ2 (by omega) hf2
      · rw [if_neg (by simpa using hr)]
        obtain ⟨n, rfl⟩ : ∃ n : Nat, r = n := ⟨r.toNat, by omega⟩
        exact fin n μ2 (by omega) hf2
    refine w_draw hf1 (by omega) (by omega) fun r2 μ2 _ _ hf2 _ => ?_
    have := pick r2 μ2 hf2
    simp only [dSet, dOp, dCut, dNoPart, dPart, dVar, dLst, dTup, dCons, dNil, dC, List.getElem?_cons_zero, List.getElem?_cons_succ, Option.some.injEq, exists_eq_left', D.int.injEq] at this
    walk_at "d"
    simpa only [List.getElem?_cons_zero, List.getElem?_cons_succ, Option.some.injEq, exists_eq_left', D.int.injEq, gAdd_ii, gIx_l, gCut_l, gAdd_ll, List.length_cons, List.length_nil, List.set_cons_succ, List.set_cons_zero] using this
  · rw [if_neg (by rw [List.length_map, decide_eq_true_eq]; omega)]
    exact h cs μ o5 h0 rfl hf
end
end Once

namespace Once
open PySem PySem.Spec PyProof.Rows L2
local macro_rules | `(tactic| walk_at "d") => `(tactic| simp only [dSeq, dNext, dRet, dRetN, dDrop, dIf, dB, dOp, dVar, dC, dNil, dCons, dTup, dLst, dCall, dSet, dUnp, gdTup_t, gdCons_c, gdName, gdNil_n, dAnd, dOr, dNot, dAndV, dOrV, dNotV, dIfE, dIsi, dIsN, dNotN, dB1, dCut, dNoPart, dPart, dNeg, bodyF, startD, bodies, dRaise1,
  List.map_cons, List.map_nil, List.length_cons, List.length_nil, Nat.reduceAdd, Nat.reduceSub, List.replicate_succ, List.replicate_zero, List.cons_append, List.nil_append, List.append_nil, Nat.zero_add,
  List.getElem?_cons_zero, List.getElem?_cons_succ, Option.some.injEq, exists_eq_left', exists_eq_left, List.set_cons_zero, List.set_cons_succ, D.bl.injEq, D.int.injEq, D.str.injEq, D.tup.injEq, List.cons.injEq, and_true, true_and, Bool.not_true, Bool.not_false, if_true, if_false, Bool.false_eq_true, reduceCtorEq,
  gAdd_ii, gAdd_ss, gAdd_ll, gSub_ii, gMul_ii, gDiv_ii, gMod_ii, gPow_ii, gInt0_ii, gLt_ii, gLe_ii, gGt_ii, gGe_ii, gEq_ii, gEq_ss, gEq_bb, gNe_ii, gNe_ss, gNe_bb, gIx_t, gIx_s, gIx_l, atI_0, atI_1, atI_2, atI_3, gLen_s, gLen_t, gLen_l, gCut_l, gCut_s, gAbs_i, gIntOf_i, gIn_s, gNotIn_s])


theorem at4 {α : Type} {x0 x1 x2 x3 : α} {r : Int} (h0 : 0 ≤ r) (h1 : r < 4) : ∃ y, atI [x0, x1, x2, x3] r = some y ∧ (y = x0 ∨ y = x1 ∨ y = x2 ∨ y = x3) := by
  have : r = 0 ∨ r = 1 ∨ r = 2 ∨ r = 3 := by omega
  rcases this with e | e | e | e
  · subst e; exact ⟨x0, atI_0, .inl rfl⟩
  · subst e; exact ⟨x1, atI_1, .inr (.inl rfl)⟩
  · subst e; exact ⟨x2, atI_2, .inr (.inr (.inl rfl))⟩
  · subst e; exact ⟨x3, atI_3, .inr (.inr (.inr rfl))⟩
theorem at3 {α : Type} {x0 x1 x2 : α} {r : Int} (h0 : 0 ≤ r) (h1 : r < 3) : ∃ y, atI [x0, x1, x2] r = some y ∧ (y = x0 ∨ y = x1 ∨ y = x2) := by
  have : r = 0 ∨ r = 1 ∨ r = 2 := by omega
  rcases this with e | e | e
  · subst e; exact ⟨x0, atI_0, .inl rfl⟩
  · subst e; exact ⟨x1, atI_1, .inr (.inl rfl)⟩
  · subst e; exact ⟨x2, atI_2, .inr (.inr rfl)⟩
theorem at2 {α : Type} {x0 x1 : α} {r : Int} (h0 : 0 ≤ r) (h1 : r < 2) : ∃ y, atI [x0, x1] r = some y ∧ (y = x0 ∨ y = x1) := by
  have : r = 0 ∨ r = 1 := by omega
  rcases this with e | e
  · subst e; exact ⟨x0, atI_0, .inl rfl⟩
  · subst e; exact ⟨x1, atI_1, .inr rfl⟩
section
variable {k : Nat} {μ : Mu} {x : DXF} {Q : DK}
theorem w_scLoop {a : Addr} {E : DEnds} {o1 : Option D} (n : Nat) (hn : n ≤ 1000) (h : ∀ cs μ' o3 o4 o5, cs ≠ [] → sizes cs = n → FeedAt μ' a → E.nx [some (.mref a), o1, some (.lst (cs.map codeD)), o3, o4, o5] μ') :
    ∀ (items : List D) (cs : List Code) (μ : Mu) (o3 o4 o5 : Option D), cs ≠ [] → sizes cs = n → FeedAt μ a → forD (gdName 3) (scStep (WW (k + 1))) (fun _ => True) E items [some (.mref a), o1, some (.lst (cs.map codeD)), o3, o4, o5] μ
  | [], cs, μ, o3, o4, o5, h0, hs, hf => ⟨trivial, h cs μ o3 o4 o5 h0 hs hf⟩
  | d :: r, cs, μ, o3, o4, o5, h0, hs, hf => by
    refine ⟨trivial, ?_⟩
    refine w_scStep hf h0 (by omega) fun cs' μ' o5' h0' hs' hf' => ?_
    exact w_scLoop n hn h r cs' μ' _ _ _ h0' (by omega) hf'
theorem w_some_code {a : Addr} (hf : FeedAt μ a) (hq : ∀ c μ', Code.size c ≤ 20 → FeedAt μ' a → Q (codeD c) μ') : WW (k + 2) 9 [.mref a, .int 20] μ x Q := by
  rw [u__law_some_code, sc_is]
  walk_at "d"
  simp only [dComp, dFor, dRng1]
  walk_at "d"
  refine w_draw hf (by omega) (by omega) fun r μ1 r0 r1 hf1 _ => ?_
  try walk_at "d"
  refine ⟨by omega, by omega, fun b hb => ?_⟩
  refine w_compDraw (a := a) (fun y => ∃ c : Code, y = codeD c ∧ c.size = 1) (fun d μ2 kk hf2 hk => ?_) _ [] μ1 _ hf1 hb (by simp [rngD]; omega) fun ys μ2 e1 e2 hf2 => ?_
  · walk_at "d"
    refine w_draw hf2 (by omega) (by omega) fun r μ3 r0 r1 hf3 hbut => ?_
    obtain ⟨y, ey, hy⟩ := at4 (x0 := D.str "B") (x1 := D.str "C") (x2 := D.str "I") (x3 := D.str "B") r0 r1
    walk_at "d"
    refine ⟨y, ey, hk y μ3 ?_ hf3 hbut⟩
    rcases hy with e | e | e | e
    · exact ⟨.B, e, rfl⟩
    · exact ⟨.C, e, rfl⟩
    · exact ⟨.I, e, rfl⟩
    · exact ⟨.B, e, rfl⟩
  · obtain ⟨cs, rfl, hs⟩ := cs_among e2
    have hl : (cs.map codeD).length = (1 + r).toNat := by rw [e1]; simp [rngD]
    refine ⟨by omega, by omega, ?_⟩
    refine w_scLoop (sizes cs) (by omega) (fun cs' μ3 o3 o4 o5 h0 hs2 hf3 => ?_) _ cs μ2 _ _ _ (fun z => by rw [z] at hl; simp at hl; omega) rfl hf2
    walk_at "d"
    cases cs' with
    | nil => exact absurd rfl h0
    | cons c cs' =>
      refine ⟨codeD c, atI_0, hq c μ3 ?_ hf3⟩
      rw [sizes_cons] at hs2
      omega
/-! ### long -/
def lgStep (W : Nat → DF) : DS := (dSeq (dSet 4 (dOp gIx (dLst (dCons (dC (.str "B")) (dCons (dC (.str "C")) (dCons (dC (.str "I")) dNil)))) (dCall (W 7) (dCons (dVar 0) (dCons (dC (.int 3)) dNil)))))
      (dSet 2 (dOp gIx (dLst (dCons (dTup (dCons (dVar 2) (dCons (dVar 4) dNil))) (dCons (dTup (dCons (dVar 4) (dCons (dVar 2) dNil))) dNil))) (dCall (W 7) (dCons (dVar 0) (dCons (dC (.int 2)) dNil))))))
theorem lg_is (W : Nat → DF) : b__law_long W = (dSeq (dSet 2 (dC (.str "I")))
      (dSeq (dFor (dRng1 (dCons (dOp gSub (dVar 1) (dC (.int 1))) dNil)) (gdName 3) (lgStep W)) (dRet (dVar 2)))) := rfl
theorem w_lgLoop {a : Addr} {E : DEnds} {o1 : Option D} (n : Nat) (h : ∀ c μ' o3 o4, Code.size c = n → FeedAt μ' a → E.nx [some (.mref a), o1, some (codeD c), o3, o4] μ') :
    ∀ (items : List D) (c : Code) (μ : Mu) (o3 o4 : Option D), c.size + items.length = n → FeedAt μ a → forD (gdName 3) (lgStep (WW (k + 1))) (fun _ => True) E items [some (.mref a), o1, some (codeD c), o3, o4] μ
  | [], c, μ, o3, o4, hs, hf => ⟨trivial, h c μ o3 o4 (by simpa using hs) hf⟩
  | d :: r, c, μ, o3, o4, hs, hf => by
    simp only [List.length_cons] at hs
    refine ⟨trivial, ?_⟩
    rw [lgStep]
    walk_at "d"
    refine w_draw hf (by omega) (by omega) fun r1 μ1 r0 r2 hf1 _ => ?_
    obtain ⟨y, ey, hy⟩ := at3 (x0 := D.str "B") (x1 := D.str "C") (x2 := D.str "I") r0 r2
    walk_at "d"
    refine ⟨y, ey, ?_⟩
    obtain ⟨c1, e1, z1⟩ : ∃ c1 : Code, y = codeD c1 ∧ c1.size = 1 := by
      rcases hy with e | e | e
      · exact ⟨.B, e, rfl⟩
      · exact ⟨.C, e, rfl⟩
      · exact ⟨.I, e, rfl⟩
    refine w_draw hf1 (by omega) (by omega) fun r3 μ3 r0 r2 hf3 _ => ?_
    obtain ⟨z, ez, hz⟩ := at2 (x0 := D.tup [codeD c, y]) (x1 := D.tup [y, codeD c]) r0 r2
    walk_at "d"
    refine ⟨z, ez, ?_⟩
    subst e1
    rcases hz with e | e
    · rw [e]; exact w_lgLoop n h r (.use c c1) μ3 _ _ (by simp only [Code.size]; omega) hf3
    · rw [e]; exact w_lgLoop n h r (.use c1 c) μ3 _ _ (by simp only [Code.size]; omega) hf3
theorem w_long {a : Addr} {m : Int} (hf : FeedAt μ a) (h1 : 1 ≤ m) (h2 : m < 1000) (hq : ∀ c μ', ((Code.size c : Nat) : Int) = m → FeedAt μ' a → Q (codeD c) μ') : WW (k + 2) 14 [.mref a, .int m] μ x Q := by
  rw [u__law_long, lg_is]
  walk_at "d"
  simp only [dFor, dRng1]
  walk_at "d"
  refine ⟨by omega, by omega, ?_⟩
  refine w_lgLoop m.toNat (fun c μ' o3 o4 e hf' => ?_) _ .I μ _ _ (by simp [rngD, Code.size]; omega) hf
  walk_at "d"
  exact hq c μ' (by omega) hf'
/-! ### bent -/
def bnStep (W : Nat → DF) : DS := (dSeq (dSet 4 (dCall (W 7) (dCons (dVar 0) (dCons (dB1 gLen (dCons (dVar 1) dNil)) dNil))))
      (dSeq (dSet 5 (dOp gIx (dC (.str "(BCI) x")) (dCall (W 7) (dCons (dVar 0) (dCons (dC (.int 7)) dNil)))))
      (dSet 2 (dOp gAdd (dVar 2) (dLst (dCons (dCut (dVar 1) dNoPart (dPart (dVar 4))) (dCons (dOp gAdd (dCut (dVar 1) dNoPart (dPart (dVar 4))) (dCut (dVar 1) (dPart (dOp gAdd (dVar 4) (dC (.int 1)))) dNoPart)) (dCons (dOp gAdd (dOp gAdd (dCut (dVar 1) dNoPart (dPart (dVar 4))) (dVar 5)) (dCut (dVar 1) (dPart (dOp gAdd (dVar 4) (dC (.int 1)))) dNoPart)) (dCons (dOp gAdd (dOp gAdd (dCut (dVar 1) dNoPart (dPart (dVar 4))) (dVar 5)) (dCut (dVar 1) (dPart (dVar 4)) dNoPart)) (dCons (dOp gAdd (dOp gAdd (dCut (dVar 1) dNoPart (dPart (dVar 4))) (dOp gIx (dVar 1) (dVar 4))) (dCut (dVar 1) (dPart (dVar 4)) dNoPart)) dNil))))))))))
theorem bn_is (W : Nat → DF) : b__law_bent W = (dSeq (dSet 2 (dLst (dCons (dOp gAdd (dVar 1) (dC (.str "B"))) (dCons (dOp gAdd (dVar 1) (dC (.str ")"))) (dCons (dOp gAdd (dC (.str "(")) (dVar 1)) (dCons (dC (.str "")) (dCons (dOp gAdd (dVar 1) (dVar 1)) dNil)))))))
      (dSeq (dFor (dRng1 (dCons (dC (.int 4)) dNil)) (gdName 3) (bnStep W)) (dRet (dVar 2)))) := rfl
def txts (fs : List (List Nat)) : List D := fs.map fun f => .str (tx f)
theorem s_b : ("B" : Str) = tx [66] := rfl
theorem s_no : ("" : Str) = tx [] := rfl
theorem s_seven : ("(BCI) x" : Str) = tx [40, 66, 67, 73, 41, 32, 120] := rfl
theorem at_some {α : Type} {xs : List α} {r : Int} (h0 : 0 ≤ r) (h1 : r < (xs.length : Nat)) : ∃ y, atI xs r = some y := by
  obtain ⟨n, rfl⟩ : ∃ n : Nat, r = n := ⟨r.toNat, by omega⟩
  have hn : n < xs.length := by omega
  exact ⟨xs[n], atI_nat (List.getElem?_eq_getElem hn)⟩
theorem w_bnLoop {a : Addr} {E : DEnds} {z : List Nat} (hz : 0 < z.length) (hz2 : z.length ≤ 60) (h : ∀ fs μ' o3 o4 o5, (∀ f ∈ fs, List.length f ≤ 150) → FeedAt μ' a → E.nx [some (.mref a), some (.str (tx z)), some (.lst (txts fs)), o3, o4, o5] μ') :
    ∀ (items : List D) (fs : List (List Nat)) (μ : Mu) (o3 o4 o5 : Option D), (∀ f ∈ fs, List.length f ≤ 150) → fs.length + 5 * items.length ≤ 1000 → FeedAt μ a → forD (gdName 3) (bnStep (WW (k + 1))) (fun _ => True) E items [some (.mref a), some (.str (tx z)), some (.lst (txts fs)), o3, o4, o5] μ
  | [], fs, μ, o3, o4, o5, hs, hl, hf => ⟨trivial, h fs μ o3 o4 o5 hs hf⟩
  | d :: r, fs, μ, o3, o4, o5, hs, hl, hf => by
    have h3 := line_big
    simp only [List.length_cons] at hl
    refine ⟨trivial, ?_⟩
    rw [bnStep]
    walk_at "d"
    refine ⟨by rw [tx_len]; omega, ?_⟩
    rw [tx_len]
    refine w_draw hf (by omega) (by omega) fun r1 μ1 r0 r2 hf1 _ => ?_
    walk_at "d"
    refine w_draw hf1 (by omega) (by omega) fun r3 μ3 q0 q1 hf3 _ => ?_
    walk_at "d"
    obtain ⟨c, ec⟩ := at_some (xs := (tx [40, 66, 67, 73, 41, 32, 120]).cps.toList) (r := r3) q0 (by rw [tx_cps]; exact q1)
    refine ⟨by rw [s_seven, tx_len]; simp only [List.length_cons, List.length_nil]; omega, c, ec, ?_⟩
    obtain ⟨n, rfl⟩ : ∃ n : Nat, r1 = n := ⟨r1.toNat, by omega⟩
    have hn : n < z.length := by omega
    have e1 : ((n : Nat) : Int) + 1 = ((n + 1 : Nat) : Int) := by omega
    have ez : atI (tx z).cps.toList ((n : Nat) : Int) = some z[n] := atI_tx (List.getElem?_eq_getElem hn)
    simp only [e1, tx_one, cutS_pre, cutS_suf, tx_app, tx_len, ez, Option.some.injEq, exists_eq_left', List.length_append, List.length_take, List.length_drop, List.length_cons, List.length_nil]
    have hm : min n z.length = n := by omega
    simp only [hm]
    repeat (refine ⟨by first | omega | (simp only [txts, List.length_map]; omega), ?_⟩)
    have := w_bnLoop hz hz2 h r (fs ++ [z.take n, z.take n ++ z.drop (n + 1), z.take n ++ [c] ++ z.drop (n + 1), z.take n ++ [c] ++ z.drop n, z.take n ++ [z[n]] ++ z.drop n]) μ3 (some d) (some (.int (n : Nat))) (some (.str (tx [c]))) (fun f m => by
      rcases List.mem_append.mp m with m | m
      · exact hs f m
      · simp only [List.mem_cons, List.not_mem_nil, or_false] at m
        rcases m with m | m | m | m | m <;> (subst m; simp only [List.length_append, List.length_take, List.length_drop, List.length_cons, List.length_nil]; omega)) (by simp only [List.length_append, List.length_cons, List.length_nil]; omega) hf3
    simp [txts] at this ⊢
    exact this
theorem w_bent {a : Addr} {z : List Nat} (hf : FeedAt μ a) (hz : 0 < z.length) (hz2 : z.length ≤ 60) (hq : ∀ fs μ', (∀ f ∈ fs, List.length f ≤ 150) → FeedAt μ' a → Q (.lst (txts fs)) μ') : WW (k + 2) 13 [.mref a, .str (tx z)] μ x Q := by
  have h3 := line_big
  rw [u__law_bent, bn_is]
  walk_at "d"
  simp only [dFor, dRng1]
  walk_at "d"
  rw [s_b, s_cl, s_op, s_no]
  simp only [tx_app, tx_len, List.length_append, List.length_cons, List.length_nil]
  repeat (refine ⟨by omega, ?_⟩)
  have := w_bnLoop (k := k) hz hz2 (a := a) (E := { nx := fun δ μ' => ∃ d, δ[2]? = some (some d) ∧ Q d μ', rt := Q, bk := fun _ _ => False, ct := fun _ _ => False, ex := fun _ c fs μ' => x c fs μ' }) (fun fs μ' o3 o4 o5 hs hf' => ⟨_, rfl, hq fs μ' hs hf'⟩) (rngD 0 (4 : Int).toNat) [z ++ [66], z ++ [41], 40 :: z, [], z ++ z] μ none none none (fun f m => by
    simp only [List.mem_cons, List.not_mem_nil, or_false] at m
    rcases m with m | m | m | m | m <;> (subst m; simp only [List.length_append, List.length_cons, List.length_nil]; omega)) (by simp [rngD]) hf
  exact this
end
end Once

namespace Once
open PySem PySem.Spec PyProof.Rows L2
local macro_rules | `(tactic| walk_at "d") => `(tactic| simp only [dSeq, dNext, dRet, dRetN, dDrop, dIf, dB, dOp, dVar, dC, dNil, dCons, dTup, dLst, dCall, dSet, dUnp, gdTup_t, gdCons_c, gdName, gdNil_n, dAnd, dOr, dNot, dAndV, dOrV, dNotV, dIfE, dIsi, dIsN, dNotN, dB1, dCut, dNoPart, dPart, dNeg, bodyF, startD, bodies, dRaise1,
  List.map_cons, List.map_nil, List.length_cons, List.length_nil, Nat.reduceAdd, Nat.reduceSub, List.replicate_succ, List.replicate_zero, List.cons_append, List.nil_append, List.append_nil, Nat.zero_add,
  List.getElem?_cons_zero, List.getElem?_cons_succ, Option.some.injEq, exists_eq_left', exists_eq_left, List.set_cons_zero, List.set_cons_succ, D.bl.injEq, D.int.injEq, D.str.injEq, D.tup.injEq, List.cons.injEq, and_true, true_and, Bool.not_true, Bool.not_false, if_true, if_false, Bool.false_eq_true, reduceCtorEq,
  gAdd_ii, gAdd_ss, gAdd_ll, gSub_ii, gMul_ii, gDiv_ii, gMod_ii, gPow_ii, gInt0_ii, gLt_ii, gLe_ii, gGt_ii, gGe_ii, gEq_ii, gEq_ss, gEq_bb, gNe_ii, gNe_ss, gNe_bb, gIx_t, gIx_s, gIx_l, atI_0, atI_1, atI_2, atI_3, gLen_s, gLen_t, gLen_l, gCut_l, gCut_s, gAbs_i, gIntOf_i, gIn_s, gNotIn_s])

def lwIn (W : Nat → DF) : DS := (dIf (dB (dOp gNe (dCall (W 11) (dCons (dVar 6) dNil)) (dCall (W 12) (dCons (dVar 6) dNil)))) (dRet (dC (.bl false))) dNext)
def lwStep (W : Nat → DF) : DS := (dSeq (dSet 5 (dCall (W 9) (dCons (dVar 1) (dCons (dC (.int 20)) dNil))))
      (dSeq (dSet 4 (dCall (W 2) (dCons (dVar 5) dNil)))
      (dSeq (dIf (dOr (dNot (dB (dIsi isStr (dVar 4)))) (dOr (dB (dOp gNe (dVar 4) (dCall (W 10) (dCons (dVar 5) dNil)))) (dOr (dB (dOp gNe (dCall (W 11) (dCons (dVar 4) dNil)) (dTup (dCons (dC (.str "code")) (dCons (dVar 5) dNil))))) (dB (dOp gNe (dB1 gRepr (dCons (dCall (W 11) (dCons (dVar 4) dNil)) dNil)) (dB1 gRepr (dCons (dTup (dCons (dC (.str "code")) (dCons (dVar 5) dNil))) dNil))))))) (dRet (dC (.bl false))) dNext)
      (dSeq (dFor (dIter (dCall (W 13) (dCons (dVar 1) (dCons (dVar 4) dNil)))) (gdName 6) (lwIn W))
      (dSeq (dSet 6 (dJoin (dC (.str "")) (dComp (dRng1 (dCons (dCall (W 7) (dCons (dVar 1) (dCons (dC (.int 9)) dNil))) dNil)) 7 dYes (dOp gIx (dC (.str "((BCI)) ")) (dCall (W 7) (dCons (dVar 1) (dCons (dC (.int 8)) dNil)))))))
      (lwIn W))))))
def lwEnd (W : Nat → DF) : DS := (dSeq (dSet 3 (dOp gAdd (dC (.int 119)) (dCall (W 7) (dCons (dVar 1) (dCons (dC (.int 4)) dNil)))))
      (dSeq (dSet 4 (dCall (W 10) (dCons (dCall (W 14) (dCons (dVar 1) (dCons (dVar 3) dNil))) dNil)))
      (dSeq (dIf (dOr (dB (dOp gNe (dCall (W 11) (dCons (dVar 4) dNil)) (dCall (W 12) (dCons (dVar 4) dNil)))) (dB (dOp gNe (dOp gEq (dOp gIx (dCall (W 11) (dCons (dVar 4) dNil)) (dC (.int 0))) (dC (.str "bad"))) (dOp gGt (dVar 3) (dC (.int 120)))))) (dRet (dC (.bl false))) dNext)
      (dSeq (dIf (dOr (dB (dOp gNe (dCall (W 2) (dCons (dTup (dCons (dTup (dCons (dC (.str "B")) (dCons (dC (.str "C")) dNil))) (dCons (dC (.str "I")) dNil))) dNil)) (dC (.str "((BC)I)")))) (dOr (dB (dOp gNe (dCall (W 11) (dCons (dC (.str "((BC)I")) dNil)) (dTup (dCons (dC (.str "bad")) (dCons (dC (.int 6)) dNil))))) (dOr (dB (dOp gNe (dCall (W 11) (dCons (dC (.str "(BCI)")) dNil)) (dTup (dCons (dC (.str "bad")) (dCons (dC (.int 3)) dNil))))) (dB (dOp gNe (dCall (W 11) (dCons (dC (.str "(B)")) dNil)) (dTup (dCons (dC (.str "bad")) (dCons (dC (.int 2)) dNil)))))))) (dRet (dC (.bl false))) dNext)
      (dRet (dAndV (dOp gEq (dCall (W 11) (dCons (dC (.str "BC")) dNil)) (dTup (dCons (dC (.str "bad")) (dCons (dC (.int 1)) dNil)))) (dAndV (dOp gEq (dCall (W 11) (dCons (dC (.str " B")) dNil)) (dTup (dCons (dC (.str "bad")) (dCons (dC (.int 0)) dNil)))) (dAndV (dOp gEq (dCall (W 11) (dCons (dC (.str "(B C)")) dNil)) (dTup (dCons (dC (.str "bad")) (dCons (dC (.int 2)) dNil)))) (dOp gEq (dCall (W 11) (dCons (dC (.str "()")) dNil)) (dTup (dCons (dC (.str "bad")) (dCons (dC (.int 1)) dNil))))))))))))
theorem lw_is (W : Nat → DF) : b_law W = (dSeq (dSet 1 (dCall (W 6) (dCons (dVar 0) dNil))) (dSeq (dFor (dRng1 (dCons (dC (.int 4)) dNil)) (gdName 2) (lwStep W)) (lwEnd W))) := rfl
theorem ans_good (z : List Nat) : okD (ans z) = true ∧ deepD (ans z) ≤ 130 := by
  have hb : ∀ i, okD (bad i) = true ∧ deepD (bad i) ≤ 130 := fun i => by simp [bad, okD, okDs, deepD, deepDs]
  have hc : ∀ c : Code, c.size ≤ 120 → okD (codeA c) = true ∧ deepD (codeA c) ≤ 130 := fun c h => by
    have := c.deep_lt
    simp [codeA, okD, okDs, deepD, deepDs, code_ok, code_deep]
    omega
  unfold ans
  cases parse (opens z + 1) z with
  | err e => exact hb _
  | ok c r =>
    cases r with
    | cons s r => exact hb _
    | nil =>
      show okD (if c.size ≤ 120 then codeA c else bad z.length) = true ∧ deepD (if c.size ≤ 120 then codeA c else bad z.length) ≤ 130
      by_cases h : c.size ≤ 120
      · rw [if_pos h]; exact hc c h
      · rw [if_neg h]; exact hb _
theorem ans_txt (c : Code) : ans c.txt = if c.size ≤ 120 then codeA c else bad c.txt.length := by
  have h := parse_txt c (opens c.txt + 1) [] (by have := deep_opens c; omega)
  rw [List.append_nil] at h
  unfold ans
  rw [h]
  rfl
theorem gNe_same {d : D} {μ : Mu} {k : DK} (h1 : okD d = true) (h2 : deepD d ≤ 800) (h : k (.bl false) μ) : gNe d d μ k := by
  refine ⟨h1, h1, by omega, ?_⟩
  rw [eqD_self d h1]; exact h
theorem gEq_same {d : D} {μ : Mu} {k : DK} (h1 : okD d = true) (h2 : deepD d ≤ 800) (h : k (.bl true) μ) : gEq d d μ k := by
  refine ⟨h1, h1, by omega, ?_⟩
  rw [eqD_self d h1]; exact h
theorem code_bulk : ∀ c : Code, (toPy (codeD c)).bulk + 2 ≤ 3 * c.size ∧ (toPy (codeD c)).leavesShort 8 = true ∧ (toPy (codeD c)).showable = true
  | .B => by decide
  | .C => by decide
  | .I => by decide
  | .use f x => by
    have h1 := code_bulk f
    have h2 := code_bulk x
    refine ⟨?_, ?_, ?_⟩
    · simp only [codeD, toPy, toPys, PyData.bulk, PyData.bulkAll, Code.size]; omega
    · simp [codeD, toPy, toPys, PyData.leavesShort, PyData.leavesShortAll, h1, h2]
    · simp [codeD, toPy, toPys, PyData.showable, PyData.showableAll, h1, h2]
theorem gRepr_code {c : Code} {μ : Mu} {k : DK} (hs : c.size ≤ 100) (h : k (.str (reprD (codeA c))) μ) : gRepr [codeA c] μ k := by
  have h3 := line_big
  have hb := code_bulk c
  have hd := c.deep_lt
  have e1 : (toPy (codeA c)).leavesShort 8 = true := by
    have : (toPy (D.str "code")).leavesShort 8 = true := by decide
    simp [codeA, toPy, toPys, PyData.leavesShort, PyData.leavesShortAll, hb] at this ⊢
    exact this
  have e2 : (toPy (codeA c)).showable = true := by simp [codeA, toPy, toPys, PyData.showable, PyData.showableAll, hb]
  have e3 : (toPy (codeA c)).bulk ≤ 400 := by
    have : (("code" : Str)).cps.size = 4 := by decide
    simp only [codeA, toPy, toPys, PyData.bulk, PyData.bulkAll, this]; omega
  rw [gRepr_d]
  refine ⟨by simp [codeA, okD, okDs, code_ok], e2, by simp [codeA, deepD, deepDs, code_deep]; omega, ?_, h⟩
  have := PyData.shown_le_bulk 8 (Nat.le_refl _) _ e1
  show (toPy (codeA c)).shown.length ≤ _
  omega
section
variable {k : Nat} {μ : Mu} {x : DXF} {Q : DK}
/-- told and due agree -/
theorem w_agree {z : List Nat} {δ : Ds} {i : Nat} {X : DX} {kk : Bool → Mu → Prop} (hz : z.length ≤ 200) (hk : z.length + 20 ≤ k) (e : δ[i]? = some (some (.str (tx z)))) (h : kk false μ) :
    (dB (dOp gNe (dCall (WW k 11) (dCons (dVar i) dNil)) (dCall (WW k 12) (dCons (dVar i) dNil)))) δ μ X kk := by
  have ho : opens z ≤ z.length := List.count_le_length
  walk_at "d"
  refine ⟨_, e, w_told (by omega) (by omega) ⟨_, e, ?_⟩⟩
  obtain ⟨k, rfl⟩ : ∃ j, k = j + 1 := ⟨k - 1, by omega⟩
  refine w_due (by omega) ?_
  have := ans_good z
  exact gNe_same this.1 (by omega) ⟨_, rfl, h⟩
theorem w_inner {a : Addr} {E : DEnds} {o0 o2 o3 o4 o5 o7 : Option D} {gs : List D} (hk : 250 ≤ k) :
    ∀ (fs : List (List Nat)) (o6 : Option D), (∀ f ∈ fs, List.length f ≤ 150) → (∀ o6, E.nx [o0, some (.mref a), o2, o3, o4, o5, o6, o7] μ) → forD (gdName 6) (lwIn (WW k)) (fun μ' => seqOf μ' (.lst gs) = some gs) E (txts fs) [o0, some (.mref a), o2, o3, o4, o5, o6, o7] μ
  | [], o6, hs, h => ⟨rfl, h o6⟩
  | f :: fs, o6, hs, h => by
    refine ⟨rfl, ?_⟩
    show lwIn (WW k) _ [o0, some (.mref a), o2, o3, o4, o5, some (.str (tx f)), o7] μ
    rw [lwIn]
    simp only [dIf]
    have hf := hs f List.mem_cons_self
    refine w_agree (z := f) (i := 6) (by omega) (by omega) rfl ?_
    simp only [Bool.false_eq_true, if_false]
    exact w_inner hk fs _ (fun g m => hs g (List.mem_cons_of_mem _ m)) h

theorem tx_of (s : Str) : s = tx s.cps.toList := by simp [tx]
theorem join_small {ls : List (List Nat)} : (Txt.join "" (ls.map tx)).length ≤ (ls.map List.length).sum := by
  show (Builtin.Str.glued _ _).length ≤ _
  rw [PySem.StrLaws.glued_eq_join]
  refine Nat.le_trans (PySem.StrLaws.join_length_le _ _) ?_
  have : ((("" : String) : Str)).length = 0 := rfl
  rw [this, Nat.mul_zero, Nat.add_zero, List.map_map]
  exact Nat.le_of_eq (congrArg List.sum (List.map_congr_left fun l _ => tx_len l))
theorem txts_among {ys : List D} (h : ∀ y ∈ ys, ∃ l : List Nat, y = .str (tx l) ∧ l.length = 1) : ∃ ls : List (List Nat), ys = txts ls ∧ strsOf ys = some (ls.map tx) ∧ (ls.map List.length).sum = ys.length ∧ ls.length = ys.length := by
  induction ys with
  | nil => exact ⟨[], rfl, rfl, rfl, rfl⟩
  | cons y ys ih =>
    obtain ⟨l, e1, e2⟩ := h y List.mem_cons_self
    obtain ⟨ls, e3, e4, e5, e6⟩ := ih fun z m => h z (List.mem_cons_of_mem _ m)
    subst e1
    refine ⟨l :: ls, by rw [e3]; rfl, ?_, by simp [e2, e5]; omega, by simp [e6]⟩
    simp only [strsOf, e4, List.map_cons]
    rfl
theorem s_eight : ("((BCI)) " : Str) = tx [40, 40, 66, 67, 73, 41, 41, 32] := rfl
theorem w_lwStep {a : Addr} {E : DEnds} {o0 o2 o3 o4 o5 o6 o7 : Option D} (hk : 260 ≤ k) (hf : FeedAt μ a) (h : ∀ μ' o4 o5 o6, FeedAt μ' a → E.nx [o0, some (.mref a), o2, o3, o4, o5, o6, o7] μ') :
    lwStep (WW k) E [o0, some (.mref a), o2, o3, o4, o5, o6, o7] μ := by
  obtain ⟨k, rfl⟩ : ∃ j, k = j + 3 := ⟨k - 3, by omega⟩
  have h3 := line_big
  rw [lwStep]
  try walk_at "d"
  refine w_some_code (k := k + 1) hf fun c μ1 hs hf1 => ?_
  have hd := c.deep_lt
  have hl := c.txt_len
  have hp := c.pos
  have ho : opens c.txt ≤ c.txt.length := List.count_le_length
  refine w_text c _ _ (by omega) (by omega) ?_
  try walk_at "d"
  refine ⟨trivial, ?_⟩
  simp only [isStr]
  try walk_at "d"
  refine w_code_text c _ _ (by omega) (by omega) ?_
  try walk_at "d"
  rw [tx_beq]
  simp only [decide_true, Bool.not_true, Bool.false_eq_true, if_false]
  have ea : ans c.txt = codeA c := by rw [ans_txt, if_pos (by omega)]
  have okA : okD (codeA c) = true := by have := ans_good c.txt; rw [ea] at this; exact this.1
  have dpA : deepD (codeA c) ≤ 800 := by have := ans_good c.txt; rw [ea] at this; omega
  refine w_told (by omega) (by omega) ?_
  rw [ea]
  refine gNe_same okA dpA ⟨_, rfl, ?_⟩
  simp only [Bool.false_eq_true, if_false]
  refine w_told (by omega) (by omega) ?_
  rw [ea]
  refine gRepr_code (by omega) ?_
  refine gRepr_code (by omega) ?_
  rw [gNe_ss]
  refine ⟨_, rfl, ?_⟩
  simp only [beq_self_eq_true, Bool.not_true, Bool.false_eq_true, if_false]
  simp only [dFor, dIter]
  try walk_at "d"
  refine w_bent (k := k + 1) hf1 (by omega) (by omega) fun fs μ2 hfs hf2 => ?_
  refine ⟨txts fs, rfl, ?_⟩
  refine w_inner (k := k + 3) (by omega) fs _ hfs fun o6' => ?_
  try walk_at "d"
  simp only [dJoin, dComp, dRng1]
  try walk_at "d"
  refine w_draw (k := k + 2) hf2 (by omega) (by omega) fun r μ3 r0 r1 hf3 _ => ?_
  refine ⟨r, rfl, by omega, by omega, fun b hb => ?_⟩
  refine w_compDraw (a := a) (fun y => ∃ l : List Nat, y = .str (tx l) ∧ l.length = 1) (fun d μ4 kk hf4 hk4 => ?_) _ [] μ3 _ hf3 hb (by simp [rngD]; omega) fun ys μ4 e1 e2 hf4 => ?_
  · walk_at "d"
    refine w_draw (k := k + 2) hf4 (by omega) (by omega) fun r μ5 r0 r1 hf5 hbut => ?_
    try walk_at "d"
    obtain ⟨c, ec⟩ := at_some (xs := (tx [40, 40, 66, 67, 73, 41, 41, 32]).cps.toList) (r := r) r0 (by rw [tx_cps]; exact r1)
    exact ⟨by rw [s_eight, tx_len]; simp only [List.length_cons, List.length_nil]; omega, c, ec, hk4 _ μ5 ⟨[c], rfl, rfl⟩ hf5 hbut⟩
  · obtain ⟨ls, e3, e4, e5, e6⟩ := txts_among e2
    have ly : ys.length = r.toNat := by rw [e1]; simp [rngD]
    refine ⟨ys, ls.map tx, rfl, e4, ?_, ?_⟩
    · have h0 : ((("" : String) : Str)).length = 0 := rfl
      rw [h0, Nat.mul_zero, Nat.add_zero, List.map_map]
      have : (ls.map (Str.length ∘ tx)).sum = (ls.map List.length).sum := congrArg List.sum (List.map_congr_left fun l _ => tx_len l)
      show (ls.map (Str.length ∘ tx)).sum ≤ _
      omega
    · have lj : (Txt.join "" (ls.map tx)).length ≤ 8 := by
        have := join_small (ls := ls)
        omega
      generalize hz : (Txt.join "" (ls.map tx)) = zz at lj ⊢
      obtain ⟨z, rfl⟩ : ∃ z, zz = tx z := ⟨_, tx_of zz⟩
      rw [tx_len] at lj
      rw [lwIn]
      simp only [dIf]
      refine w_agree (z := z) (i := 6) (by omega) (by omega) rfl ?_
      simp only [Bool.false_eq_true, if_false]
      exact h μ4 _ _ _ hf4
theorem w_lwLoop {a : Addr} {E : DEnds} {o0 o3 o7 : Option D} (hk : 260 ≤ k) (h : ∀ μ' o2 o4 o5 o6, FeedAt μ' a → E.nx [o0, some (.mref a), o2, o3, o4, o5, o6, o7] μ') :
    ∀ (items : List D) (μ : Mu) (o2 o4 o5 o6 : Option D), FeedAt μ a → forD (gdName 2) (lwStep (WW k)) (fun _ => True) E items [o0, some (.mref a), o2, o3, o4, o5, o6, o7] μ
  | [], μ, o2, o4, o5, o6, hf => ⟨trivial, h μ o2 o4 o5 o6 hf⟩
  | d :: r, μ, o2, o4, o5, o6, hf => ⟨trivial, w_lwStep hk hf fun μ' p4 p5 p6 hf' => w_lwLoop hk h r μ' _ p4 p5 p6 hf'⟩
theorem t_1 : ("((BC)I)" : Str) = tx (Code.txt (.use (.use .B .C) .I)) := rfl
theorem t_2 : ("((BC)I" : Str) = tx [40, 40, 66, 67, 41, 73] := rfl
theorem t_3 : ("(BCI)" : Str) = tx [40, 66, 67, 73, 41] := rfl
theorem t_4 : ("(B)" : Str) = tx [40, 66, 41] := rfl
theorem t_5 : ("BC" : Str) = tx [66, 67] := rfl
theorem t_6 : (" B" : Str) = tx [32, 66] := rfl
theorem t_7 : ("(B C)" : Str) = tx [40, 66, 32, 67, 41] := rfl
theorem t_8 : ("()" : Str) = tx [40, 41] := rfl
theorem bad_ok (i : Nat) : okD (bad i) = true ∧ deepD (bad i) ≤ 800 := by simp [bad, okD, okDs, deepD, deepDs]
theorem w_ne_bad {z : List Nat} {i : Nat} {kk : DK} (hz : z.length ≤ 20) (hk : 100 ≤ k) (e : ans z = bad i) (h : kk (.bl false) μ) : WW k 11 [.str (tx z)] μ x fun d μ1 => gNe d (.tup [.str "bad", .int (i : Nat)]) μ1 kk := by
  have ho : opens z ≤ z.length := List.count_le_length
  refine w_told (by omega) (by omega) ?_
  rw [e]
  exact gNe_same (d := bad i) (bad_ok i).1 (bad_ok i).2 h
theorem w_eq_bad {z : List Nat} {i : Nat} {kk : DK} (hz : z.length ≤ 20) (hk : 100 ≤ k) (e : ans z = bad i) (h : kk (.bl true) μ) : WW k 11 [.str (tx z)] μ x fun d μ1 => gEq d (.tup [.str "bad", .int (i : Nat)]) μ1 kk := by
  have ho : opens z ≤ z.length := List.count_le_length
  refine w_told (by omega) (by omega) ?_
  rw [e]
  exact gEq_same (d := bad i) (bad_ok i).1 (bad_ok i).2 h
theorem w_lwEnd {a : Addr} {E : DEnds} {o0 o2 o3 o4 o5 o6 o7 : Option D} (hk : 290 ≤ k) (hf : FeedAt μ a) (h : ∀ μ', E.rt (.bl true) μ') : lwEnd (WW k) E [o0, some (.mref a), o2, o3, o4, o5, o6, o7] μ := by
  obtain ⟨k, rfl⟩ : ∃ j, k = j + 3 := ⟨k - 3, by omega⟩
  have h3 := line_big
  rw [lwEnd]
  try walk_at "d"
  refine w_draw (k := k + 2) hf (by omega) (by omega) fun r μ1 r0 r1 hf1 _ => ?_
  try walk_at "d"
  refine w_long (k := k + 1) hf1 (by omega) (by omega) fun c μ2 hc hf2 => ?_
  have hd := c.deep_lt
  have hl := c.txt_len
  have hp := c.pos
  have ho := deep_opens c
  have ho2 : opens c.txt + 1 = c.size := by
    have : ∀ c : Code, opens c.txt + 1 = c.size := fun c => by
      induction c with
      | use f x h1 h2 => have e0 : opens [41] = 0 := rfl; simp only [Code.txt, Code.size, opens_cons, opens_app, if_true, e0] at *; simp only [opens, List.count_nil] at *; omega
      | _ => rfl
    exact this c
  refine w_code_text c _ _ (by omega) (by omega) ?_
  try walk_at "d"
  refine w_told (by omega) (by omega) ?_
  refine w_due (k := k + 2) (by omega) ?_
  have hg := ans_good c.txt
  refine gNe_same hg.1 (by omega) ⟨_, rfl, ?_⟩
  simp only [Bool.false_eq_true, if_false]
  refine w_told (by omega) (by omega) ?_
  rw [ans_txt]
  have first : ∀ KK : DK, KK (.bl false) μ2 → (gIx (if c.size ≤ 120 then codeA c else bad c.txt.length) (.int 0) μ2 fun d μ1 => gEq d (.str "bad") μ1 fun d μ1 => gNe d (.bl (decide (120 < 119 + r))) μ1 KK) := fun KK hK => by
    by_cases hs : c.size ≤ 120
    · rw [if_pos hs, codeA, gIx_t]
      refine ⟨_, atI_0, ?_⟩
      have : decide ((120 : Int) < 119 + r) = false := by rw [decide_eq_false_iff_not]; omega
      rw [gEq_ss, gNe_bb, this]
      exact hK
    · rw [if_neg hs, bad, gIx_t]
      refine ⟨_, atI_0, ?_⟩
      have : decide ((120 : Int) < 119 + r) = true := by rw [decide_eq_true_eq]; omega
      rw [gEq_ss, gNe_bb, this]
      simpa using hK
  refine first _ ⟨_, rfl, ?_⟩
  simp only [Bool.false_eq_true, if_false]
  refine w_text (.use (.use .B .C) .I) _ _ (by decide) (by simp only [Code.deep]; omega) ?_
  rw [t_1, gNe_ss, tx_beq]
  refine ⟨_, rfl, ?_⟩
  simp only [decide_true, Bool.not_true, Bool.false_eq_true, if_false]
  rw [t_2, t_3, t_4, t_5, t_6, t_7, t_8]
  refine w_ne_bad (i := 6) (by decide) (by omega) rfl ⟨_, rfl, ?_⟩
  simp only [Bool.false_eq_true, if_false]
  refine w_ne_bad (i := 3) (by decide) (by omega) rfl ⟨_, rfl, ?_⟩
  simp only [Bool.false_eq_true, if_false]
  refine w_ne_bad (i := 2) (by decide) (by omega) rfl ⟨_, rfl, ?_⟩
  simp only [Bool.false_eq_true, if_false]
  refine w_eq_bad (i := 1) (by decide) (by omega) rfl ⟨_, rfl, ?_⟩
  simp only [if_true]
  refine w_eq_bad (i := 0) (by decide) (by omega) rfl ⟨_, rfl, ?_⟩
  simp only [if_true]
  refine w_eq_bad (i := 2) (by decide) (by omega) rfl ⟨_, rfl, ?_⟩
  simp only [if_true]
  refine w_eq_bad (i := 1) (by decide) (by omega) rfl ?_
  exact h μ2
end
theorem law_holds : LawD 63 (WW 300 15) := fun ns hn => by
  rw [u_law, lw_is]
  walk_at "d"
  refine w_feed (k := 298) ns fun a ha => ?_
  simp only [dFor, dRng1]
  walk_at "d"
  refine ⟨by omega, by omega, ?_⟩
  have hf : FeedAt (put (fun _ => none) a (.lst [.lst (ns.map .int), .int 0, .int 0, .int 1])) a := ⟨ns, 0, 0, 1, put_same, by omega, by omega, by omega, by omega⟩
  refine w_lwLoop (by omega) (fun μ' o2 o4 o5 o6 hf' => ?_) _ _ _ _ _ _ hf
  exact w_lwEnd (by omega) hf' fun _ => rfl
end Once

namespace Once
open PySem PySem.Spec PyProof.Rows L2
/-! ## The walk -/
structure Ads where
  f_is_use : Addr
  fd_is_use : FuncData
  f_count_joiners : Addr
  fd_count_joiners : FuncData
  f_text_of_code : Addr
  fd_text_of_code : FuncData
  f_taken : Addr
  fd_taken : FuncData
  f_code_from : Addr
  fd_code_from : FuncData
  f_code_of_text : Addr
  fd_code_of_text : FuncData
  f__law_feed : Addr
  fd__law_feed : FuncData
  f__law_draw : Addr
  fd__law_draw : FuncData
  f__law_is_whole : Addr
  fd__law_is_whole : FuncData
  f__law_some_code : Addr
  fd__law_some_code : FuncData
  f__law_code_text : Addr
  fd__law_code_text : FuncData
  f__law_told : Addr
  fd__law_told : FuncData
  f__law_due : Addr
  fd__law_due : FuncData
  f__law_bent : Addr
  fd__law_bent : FuncData
  f__law_long : Addr
  fd__law_long : FuncData
  f_law : Addr
  fd_law : FuncData
  c_OnceError : Addr
  c_BadText : Addr
  f_BadText_init : Addr
  fd_BadText_init : FuncData
  c_BadBytes : Addr
  f_BadBytes_init : Addr
  fd_BadBytes_init : FuncData
structure Txt (P : Program) (w : World) (K : PySem.W.Frag) (mg : Str → Option Value) (base : Heap) (A : Ads) : Prop where
  F_is_use : Fun K "is_use" "is_use" s_is_use A.f_is_use A.fd_is_use
  g_is_use : mg "is_use" = some (.ref A.f_is_use)
  k_is_use : PySem.W.keepIn K (.ref A.f_is_use) = true
  bd_is_use : Binds K A.fd_is_use ["code"] []
  F_count_joiners : Fun K "count_joiners" "count_joiners" s_count_joiners A.f_count_joiners A.fd_count_joiners
  g_count_joiners : mg "count_joiners" = some (.ref A.f_count_joiners)
  k_count_joiners : PySem.W.keepIn K (.ref A.f_count_joiners) = true
  bd_count_joiners : Binds K A.fd_count_joiners ["code"] []
  F_text_of_code : Fun K "text_of_code" "text_of_code" s_text_of_code A.f_text_of_code A.fd_text_of_code
  g_text_of_code : mg "text_of_code" = some (.ref A.f_text_of_code)
  k_text_of_code : PySem.W.keepIn K (.ref A.f_text_of_code) = true
  bd_text_of_code : Binds K A.fd_text_of_code ["code"] []
  F_taken : Fun K "taken" "taken" s_taken A.f_taken A.fd_taken
  g_taken : mg "taken" = some (.ref A.f_taken)
  k_taken : PySem.W.keepIn K (.ref A.f_taken) = true
  bd_taken : Binds K A.fd_taken ["text", "at", "allowed"] []
  F_code_from : Fun K "code_from" "code_from" s_code_from A.f_code_from A.fd_code_from
  g_code_from : mg "code_from" = some (.ref A.f_code_from)
  k_code_from : PySem.W.keepIn K (.ref A.f_code_from) = true
  bd_code_from : Binds K A.fd_code_from ["text", "at"] []
  F_code_of_text : Fun K "code_of_text" "code_of_text" s_code_of_text A.f_code_of_text A.fd_code_of_text
  g_code_of_text : mg "code_of_text" = some (.ref A.f_code_of_text)
  k_code_of_text : PySem.W.keepIn K (.ref A.f_code_of_text) = true
  bd_code_of_text : Binds K A.fd_code_of_text ["text"] []
  F__law_feed : Fun K "_law_feed" "_law_feed" s__law_feed A.f__law_feed A.fd__law_feed
  g__law_feed : mg "_law_feed" = some (.ref A.f__law_feed)
  k__law_feed : PySem.W.keepIn K (.ref A.f__law_feed) = true
  bd__law_feed : Binds K A.fd__law_feed ["script"] []
  F__law_draw : Fun K "_law_draw" "_law_draw" s__law_draw A.f__law_draw A.fd__law_draw
  g__law_draw : mg "_law_draw" = some (.ref A.f__law_draw)
  k__law_draw : PySem.W.keepIn K (.ref A.f__law_draw) = true
  bd__law_draw : Binds K A.fd__law_draw ["feed", "many"] []
  F__law_is_whole : Fun K "_law_is_whole" "_law_is_whole" s__law_is_whole A.f__law_is_whole A.fd__law_is_whole
  g__law_is_whole : mg "_law_is_whole" = some (.ref A.f__law_is_whole)
  k__law_is_whole : PySem.W.keepIn K (.ref A.f__law_is_whole) = true
  bd__law_is_whole : Binds K A.fd__law_is_whole ["x"] []
  F__law_some_code : Fun K "_law_some_code" "_law_some_code" s__law_some_code A.f__law_some_code A.fd__law_some_code
  g__law_some_code : mg "_law_some_code" = some (.ref A.f__law_some_code)
  k__law_some_code : PySem.W.keepIn K (.ref A.f__law_some_code) = true
  bd__law_some_code : Binds K A.fd__law_some_code ["feed", "most"] []
  F__law_code_text : Fun K "_law_code_text" "_law_code_text" s__law_code_text A.f__law_code_text A.fd__law_code_text
  g__law_code_text : mg "_law_code_text" = some (.ref A.f__law_code_text)
  k__law_code_text : PySem.W.keepIn K (.ref A.f__law_code_text) = true
  bd__law_code_text : Binds K A.fd__law_code_text ["code"] []
  F__law_told : Fun K "_law_told" "_law_told" s__law_told A.f__law_told A.fd__law_told
  g__law_told : mg "_law_told" = some (.ref A.f__law_told)
  k__law_told : PySem.W.keepIn K (.ref A.f__law_told) = true
  bd__law_told : Binds K A.fd__law_told ["text"] []
  F__law_due : Fun K "_law_due" "_law_due" s__law_due A.f__law_due A.fd__law_due
  g__law_due : mg "_law_due" = some (.ref A.f__law_due)
  k__law_due : PySem.W.keepIn K (.ref A.f__law_due) = true
  bd__law_due : Binds K A.fd__law_due ["text"] []
  F__law_bent : Fun K "_law_bent" "_law_bent" s__law_bent A.f__law_bent A.fd__law_bent
  g__law_bent : mg "_law_bent" = some (.ref A.f__law_bent)
  k__law_bent : PySem.W.keepIn K (.ref A.f__law_bent) = true
  bd__law_bent : Binds K A.fd__law_bent ["feed", "text"] []
  F__law_long : Fun K "_law_long" "_law_long" s__law_long A.f__law_long A.fd__law_long
  g__law_long : mg "_law_long" = some (.ref A.f__law_long)
  k__law_long : PySem.W.keepIn K (.ref A.f__law_long) = true
  bd__law_long : Binds K A.fd__law_long ["feed", "many"] []
  F_law : Fun K "law" "law" s_law A.f_law A.fd_law
  g_law : mg "law" = some (.ref A.f_law)
  k_law : PySem.W.keepIn K (.ref A.f_law) = true
  bd_law : Binds K A.fd_law ["script"] []
  z_abs : mg "abs" = none
  z_bool : mg "bool" = none
  z_int : mg "int" = none
  z_isinstance : mg "isinstance" = none
  z_len : mg "len" = none
  z_list : mg "list" = none
  z_range : mg "range" = none
  z_repr : mg "repr" = none
  z_str : mg "str" = none
  z_tuple : mg "tuple" = none
  v_MOST_JOINERS : ∃ t, mg "MOST_JOINERS" = some (.int 120 t)
  g_OnceError : mg "OnceError" = some (.ref A.c_OnceError)
  g_BadText : mg "BadText" = some (.ref A.c_BadText)
  g_BadBytes : mg "BadBytes" = some (.ref A.c_BadBytes)
  er_BadText : Err1 P w K mg base "BadText" "at" A.c_BadText A.f_BadText_init A.fd_BadText_init
  sub_BadText : ∀ (cn : Str) (C : Addr) (b : Bool), mg cn = some (.ref C) → sub_BadText cn = some b → PySem.W.exmOne K (.ref C) (.ref A.c_BadText) = some b
  xf_BadText : XfC K A.c_BadText
  ec_BadText : ExcC K A.c_BadText
  no_BadText_at : PySem.W.findIn K (.ref A.c_BadText) "at" = some none
  ki_BadText_BadBytes : PySem.W.kitOne K (.ref A.c_BadText) (.ref A.c_BadBytes) = some false
  ki_BadText_OnceError : PySem.W.kitOne K (.ref A.c_BadText) (.ref A.c_OnceError) = some true
  h__law_is_whole : FnHD P w K mg base 1 A.f__law_is_whole A.fd__law_is_whole ["x"] (bodyF 1 (b__law_is_whole fun _ => noF))
structure AllD (P : Program) (w : World) (K : PySem.W.Frag) (mg : Str → Option Value) (base : Heap) (A : Ads) (k : Nat) (W : Nat → DF) : Prop where
  d_is_use : FnD P w K mg base k A.f_is_use A.fd_is_use ["code"] (W 0)
  d_count_joiners : FnD P w K mg base k A.f_count_joiners A.fd_count_joiners ["code"] (W 1)
  d_text_of_code : FnD P w K mg base k A.f_text_of_code A.fd_text_of_code ["code"] (W 2)
  d_taken : FnD P w K mg base k A.f_taken A.fd_taken ["text", "at", "allowed"] (W 3)
  d_code_from : FnD P w K mg base k A.f_code_from A.fd_code_from ["text", "at"] (W 4)
  d_code_of_text : FnD P w K mg base k A.f_code_of_text A.fd_code_of_text ["text"] (W 5)
  d__law_feed : FnD P w K mg base k A.f__law_feed A.fd__law_feed ["script"] (W 6)
  d__law_draw : FnD P w K mg base k A.f__law_draw A.fd__law_draw ["feed", "many"] (W 7)
  d__law_is_whole : FnD P w K mg base k A.f__law_is_whole A.fd__law_is_whole ["x"] (W 8)
  d__law_some_code : FnD P w K mg base k A.f__law_some_code A.fd__law_some_code ["feed", "most"] (W 9)
  d__law_code_text : FnD P w K mg base k A.f__law_code_text A.fd__law_code_text ["code"] (W 10)
  d__law_told : FnD P w K mg base k A.f__law_told A.fd__law_told ["text"] (W 11)
  d__law_due : FnD P w K mg base k A.f__law_due A.fd__law_due ["text"] (W 12)
  d__law_bent : FnD P w K mg base k A.f__law_bent A.fd__law_bent ["feed", "text"] (W 13)
  d__law_long : FnD P w K mg base k A.f__law_long A.fd__law_long ["feed", "many"] (W 14)
  d_law : FnD P w K mg base k A.f_law A.fd_law ["script"] (W 15)
section
variable {P : Program} {w : World} {K : PySem.W.Frag} {mg : Str → Option Value} {base : Heap} {A : Ads} {k : Nat} {W : Nat → DF}
theorem ok_is_use (T : Txt P w K mg base A) (IH : AllD P w K mg base A k W) : FnD P w K mg base (k + 1) A.f_is_use A.fd_is_use ["code"] (bodyF 1 (b_is_use W)) := by
  refine T.F_is_use.okD (N := N_is_use) (b := b_is_use W) sc_is_use fun cdv Ar outer s H E hr => ?_
  have tk : L2N.Takes (cxOf (L2N.CX P w) P w K mg base N_is_use "is_use" (defScope s_is_use) A.f_is_use cdv Ar outer s H E) (fun cls d _ H' => E cls d H') := L2N.takes_of rfl rfl rfl rfl
  have hu : Un0 (Ar.deeper (envOfC "is_use" (defScope s_is_use) s.heap.objs.size A.f_is_use cdv)) := hr.un0
  exact (qss_one (qs_ret (q_isi ans_tup rfl T.z_isinstance rfl T.z_tuple (by decide +kernel) (qv 0))))
theorem ok_count_joiners (T : Txt P w K mg base A) (IH : AllD P w K mg base A k W) : FnD P w K mg base (k + 1) A.f_count_joiners A.fd_count_joiners ["code"] (bodyF 1 (b_count_joiners W)) := by
  refine T.F_count_joiners.okD (N := N_count_joiners) (b := b_count_joiners W) sc_count_joiners fun cdv Ar outer s H E hr => ?_
  have tk : L2N.Takes (cxOf (L2N.CX P w) P w K mg base N_count_joiners "count_joiners" (defScope s_count_joiners) A.f_count_joiners cdv Ar outer s H E) (fun cls d _ H' => E cls d H') := L2N.takes_of rfl rfl rfl rfl
  have hu : Un0 (Ar.deeper (envOfC "count_joiners" (defScope s_count_joiners) s.heap.objs.size A.f_count_joiners cdv)) := hr.un0
  exact (qss_cons (qs_if (qt (q_call IH.d_is_use hr rfl T.g_is_use T.k_is_use T.bd_is_use tk (qa_cons (qv 0) qa_nil))) (qss_one (qs_ret (q_op oq_add (q_call IH.d_count_joiners hr rfl T.g_count_joiners T.k_count_joiners T.bd_count_joiners tk (qa_cons (q_ix (qv 0) q_int) qa_nil)) (q_call IH.d_count_joiners hr rfl T.g_count_joiners T.k_count_joiners T.bd_count_joiners tk (qa_cons (q_ix (qv 0) q_int) qa_nil))))) qss_nil)
      (qss_one (qs_ret q_int)))
theorem ok_text_of_code (T : Txt P w K mg base A) (IH : AllD P w K mg base A k W) : FnD P w K mg base (k + 1) A.f_text_of_code A.fd_text_of_code ["code"] (bodyF 1 (b_text_of_code W)) := by
  refine T.F_text_of_code.okD (N := N_text_of_code) (b := b_text_of_code W) sc_text_of_code fun cdv Ar outer s H E hr => ?_
  have tk : L2N.Takes (cxOf (L2N.CX P w) P w K mg base N_text_of_code "text_of_code" (defScope s_text_of_code) A.f_text_of_code cdv Ar outer s H E) (fun cls d _ H' => E cls d H') := L2N.takes_of rfl rfl rfl rfl
  have hu : Un0 (Ar.deeper (envOfC "text_of_code" (defScope s_text_of_code) s.heap.objs.size A.f_text_of_code cdv)) := hr.un0
  exact (qss_cons (qs_if (qt (q_call IH.d_is_use hr rfl T.g_is_use T.k_is_use T.bd_is_use tk (qa_cons (qv 0) qa_nil))) (qss_one (qs_ret (q_op oq_add (q_op oq_add (q_op oq_add q_str (q_call IH.d_text_of_code hr rfl T.g_text_of_code T.k_text_of_code T.bd_text_of_code tk (qa_cons (q_ix (qv 0) q_int) qa_nil))) (q_call IH.d_text_of_code hr rfl T.g_text_of_code T.k_text_of_code T.bd_text_of_code tk (qa_cons (q_ix (qv 0) q_int) qa_nil))) q_str))) qss_nil)
      (qss_one (qs_ret (qv 0))))
theorem ok_taken (T : Txt P w K mg base A) (IH : AllD P w K mg base A k W) : FnD P w K mg base (k + 1) A.f_taken A.fd_taken ["text", "at", "allowed"] (bodyF 3 (b_taken W)) := by
  refine T.F_taken.okD (N := N_taken) (b := b_taken W) sc_taken fun cdv Ar outer s H E hr => ?_
  have tk : L2N.Takes (cxOf (L2N.CX P w) P w K mg base N_taken "taken" (defScope s_taken) A.f_taken cdv Ar outer s H E) (fun cls d _ H' => E cls d H') := L2N.takes_of rfl rfl rfl rfl
  have hu : Un0 (Ar.deeper (envOfC "taken" (defScope s_taken) s.heap.objs.size A.f_taken cdv)) := hr.un0
  exact (qss_cons (qs_if (qt_bool (qw_or (qt_cmp (oq_eq hu) (qv 1) (q_callB cq_len rfl T.z_len (by decide +kernel) (qa_cons (qv 0) qa_nil))) (qw_or1 (qt_cmp (oq_notIn hu) (q_ix (qv 0) (qv 1)) (qv 2))))) (qss_one (qs_raise1 rfl T.er_BadText hr tk rfl (qv 1))) qss_nil)
      (qss_one (qs_ret (q_ix (qv 0) (qv 1)))))
theorem ok_code_from (T : Txt P w K mg base A) (IH : AllD P w K mg base A k W) : FnD P w K mg base (k + 1) A.f_code_from A.fd_code_from ["text", "at"] (bodyF 6 (b_code_from W)) := by
  refine T.F_code_from.okD (N := N_code_from) (b := b_code_from W) sc_code_from fun cdv Ar outer s H E hr => ?_
  have tk : L2N.Takes (cxOf (L2N.CX P w) P w K mg base N_code_from "code_from" (defScope s_code_from) A.f_code_from cdv Ar outer s H E) (fun cls d _ H' => E cls d H') := L2N.takes_of rfl rfl rfl rfl
  have hu : Un0 (Ar.deeper (envOfC "code_from" (defScope s_code_from) s.heap.objs.size A.f_code_from cdv)) := hr.un0
  exact (qss_cons (qs_if (qt_cmp (oq_ne hu) (q_call IH.d_taken hr rfl T.g_taken T.k_taken T.bd_taken tk (qa_cons (qv 0) (qa_cons (qv 1) (qa_cons q_str qa_nil)))) q_str) (qss_one (qs_ret (q_tup (qa_cons (q_ix (qv 0) (qv 1)) (qa_cons (q_op oq_add (qv 1) q_int) qa_nil))))) qss_nil)
      (qss_cons (qs_unp rfl (q_call IH.d_code_from hr rfl T.g_code_from T.k_code_from T.bd_code_from tk (qa_cons (qv 0) (qa_cons (q_op oq_add (qv 1) q_int) qa_nil))) (qgs_cons (qg_name (i := 2) sc_code_from.nd rfl (by first | exact Or.inl rfl | exact Or.inr rfl)) (qgs_cons (qg_name (i := 3) sc_code_from.nd rfl (by first | exact Or.inl rfl | exact Or.inr rfl)) qgs_nil)))
      (qss_cons (qs_unp rfl (q_call IH.d_code_from hr rfl T.g_code_from T.k_code_from T.bd_code_from tk (qa_cons (qv 0) (qa_cons (qv 3) qa_nil))) (qgs_cons (qg_name (i := 4) sc_code_from.nd rfl (by first | exact Or.inl rfl | exact Or.inr rfl)) (qgs_cons (qg_name (i := 5) sc_code_from.nd rfl (by first | exact Or.inl rfl | exact Or.inr rfl)) qgs_nil)))
      (qss_cons (qs_expr (q_call IH.d_taken hr rfl T.g_taken T.k_taken T.bd_taken tk (qa_cons (qv 0) (qa_cons (qv 5) (qa_cons q_str qa_nil)))))
      (qss_one (qs_ret (q_tup (qa_cons (q_tup (qa_cons (qv 2) (qa_cons (qv 4) qa_nil))) (qa_cons (q_op oq_add (qv 5) q_int) qa_nil)))))))))
theorem ok_code_of_text (T : Txt P w K mg base A) (IH : AllD P w K mg base A k W) : FnD P w K mg base (k + 1) A.f_code_of_text A.fd_code_of_text ["text"] (bodyF 3 (b_code_of_text W)) := by
  refine T.F_code_of_text.okD (N := N_code_of_text) (b := b_code_of_text W) sc_code_of_text fun cdv Ar outer s H E hr => ?_
  have tk : L2N.Takes (cxOf (L2N.CX P w) P w K mg base N_code_of_text "code_of_text" (defScope s_code_of_text) A.f_code_of_text cdv Ar outer s H E) (fun cls d _ H' => E cls d H') := L2N.takes_of rfl rfl rfl rfl
  have hu : Un0 (Ar.deeper (envOfC "code_of_text" (defScope s_code_of_text) s.heap.objs.size A.f_code_of_text cdv)) := hr.un0
  exact (qss_cons (qs_unp rfl (q_call IH.d_code_from hr rfl T.g_code_from T.k_code_from T.bd_code_from tk (qa_cons (qv 0) (qa_cons q_int qa_nil))) (qgs_cons (qg_name (i := 1) sc_code_of_text.nd rfl (by first | exact Or.inl rfl | exact Or.inr rfl)) (qgs_cons (qg_name (i := 2) sc_code_of_text.nd rfl (by first | exact Or.inl rfl | exact Or.inr rfl)) qgs_nil)))
      (qss_cons (qs_if (qt_cmp oq_lt (qv 2) (q_callB cq_len rfl T.z_len (by decide +kernel) (qa_cons (qv 0) qa_nil))) (qss_one (qs_raise1 rfl T.er_BadText hr tk rfl (qv 2))) qss_nil)
      (qss_cons (qs_if (qt_cmp oq_gt (q_call IH.d_count_joiners hr rfl T.g_count_joiners T.k_count_joiners T.bd_count_joiners tk (qa_cons (qv 1) qa_nil)) (qc (pe_glob (v := .int 120) rfl T.v_MOST_JOINERS.choose_spec ⟨_, rfl⟩) fun _ => .int _)) (qss_one (qs_raise1 rfl T.er_BadText hr tk rfl (q_callB cq_len rfl T.z_len (by decide +kernel) (qa_cons (qv 0) qa_nil)))) qss_nil)
      (qss_one (qs_ret (qv 1))))))
theorem ok__law_feed (T : Txt P w K mg base A) (IH : AllD P w K mg base A k W) : FnD P w K mg base (k + 1) A.f__law_feed A.fd__law_feed ["script"] (bodyF 1 (b__law_feed W)) := by
  refine T.F__law_feed.okD (N := N__law_feed) (b := b__law_feed W) sc__law_feed fun cdv Ar outer s H E hr => ?_
  have tk : L2N.Takes (cxOf (L2N.CX P w) P w K mg base N__law_feed "_law_feed" (defScope s__law_feed) A.f__law_feed cdv Ar outer s H E) (fun cls d _ H' => E cls d H') := L2N.takes_of rfl rfl rfl rfl
  have hu : Un0 (Ar.deeper (envOfC "_law_feed" (defScope s__law_feed) s.heap.objs.size A.f__law_feed cdv)) := hr.un0
  exact (qss_one (qs_ret (q_new (qa_cons (q_callTy cq_list rfl T.z_list (by decide +kernel) (qa_cons (qv 0) qa_nil)) (qa_cons q_int (qa_cons q_int (qa_cons q_int qa_nil)))))))
theorem ok__law_draw (T : Txt P w K mg base A) (IH : AllD P w K mg base A k W) : FnD P w K mg base (k + 1) A.f__law_draw A.fd__law_draw ["feed", "many"] (bodyF 5 (b__law_draw W)) := by
  refine T.F__law_draw.okD (N := N__law_draw) (b := b__law_draw W) sc__law_draw fun cdv Ar outer s H E hr => ?_
  have tk : L2N.Takes (cxOf (L2N.CX P w) P w K mg base N__law_draw "_law_draw" (defScope s__law_draw) A.f__law_draw cdv Ar outer s H E) (fun cls d _ H' => E cls d H') := L2N.takes_of rfl rfl rfl rfl
  have hu : Un0 (Ar.deeper (envOfC "_law_draw" (defScope s__law_draw) s.heap.objs.size A.f__law_draw cdv)) := hr.un0
  exact (qss_cons (qs_if (qt_bool (qw_and (qt_cmp (oq_eq hu) (q_ix (qv 0) q_int) q_int) (qw_and1 (qt_cmp oq_lt (q_ix (qv 0) q_int) (q_callB cq_len rfl T.z_len (by decide +kernel) (qa_cons (q_ix (qv 0) q_int) qa_nil)))))) (qss_cons (qs_set (i := 3) sc__law_draw.nd rfl (by first | exact Or.inl rfl | exact Or.inr rfl) (q_callB cq_abs rfl T.z_abs (by decide +kernel) (qa_cons (q_callTy cq_int rfl T.z_int (by decide +kernel) (qa_cons (q_ix (q_ix (qv 0) q_int) (q_ix (qv 0) q_int)) qa_nil)) qa_nil)))
      (qss_cons (qs_augAt (qv 0) q_int q_int ipq_add)
      (qss_one (qs_if (qt_cmp oq_ge (qv 3) (q_op oq_pow q_int q_int)) (qss_one (qs_setAt (qv 3) (qv 0) q_int)) (qss_one (qs_setAt (q_op oq_mod (q_callTy cq_int rfl T.z_int (by decide +kernel) (qa_cons (q_op oq_add (q_op oq_add (q_op oq_mul (q_ix (qv 0) q_int) q_int) (q_op oq_mul (qv 3) q_int)) (q_ix (qv 0) q_int)) qa_nil)) q_int) (qv 0) q_int)))))) qss_nil)
      (qss_cons (qs_if (qt_cmp oq_gt (q_ix (qv 0) q_int) q_int) (qss_cons (qs_set (i := 4) sc__law_draw.nd rfl (by first | exact Or.inl rfl | exact Or.inr rfl) (q_op oq_mod (q_callTy cq_int rfl T.z_int (by decide +kernel) (qa_cons (q_ix (qv 0) q_int) qa_nil)) (qv 1)))
      (qss_cons (qs_setAt (q_op oq_div (q_ix (qv 0) q_int) (qv 1)) (qv 0) q_int)
      (qss_one (qs_ret (qv 4))))) qss_nil)
      (qss_cons (qs_setAt (q_op oq_mod (q_callTy cq_int rfl T.z_int (by decide +kernel) (qa_cons (q_op oq_add (q_op oq_mul (q_ix (qv 0) q_int) q_int) q_int) qa_nil)) q_int) (qv 0) q_int)
      (qss_cons (qs_set (i := 2) sc__law_draw.nd rfl (by first | exact Or.inl rfl | exact Or.inr rfl) (q_op oq_mod (q_callTy cq_int rfl T.z_int (by decide +kernel) (qa_cons (q_op oq_add (q_op oq_mul (q_ix (qv 0) q_int) (q_ix (qv 0) q_int)) (q_ix (qv 0) q_int)) qa_nil)) q_int))
      (qss_one (qs_ret (q_op oq_mod (q_op oq_div (qv 2) q_int) (qv 1))))))))
theorem ok__law_is_whole (T : Txt P w K mg base A) (IH : AllD P w K mg base A k W) : FnD P w K mg base (k + 1) A.f__law_is_whole A.fd__law_is_whole ["x"] (bodyF 1 (b__law_is_whole W)) := by
  refine T.F__law_is_whole.okD (N := N__law_is_whole) (b := b__law_is_whole W) sc__law_is_whole fun cdv Ar outer s H E hr => ?_
  have tk : L2N.Takes (cxOf (L2N.CX P w) P w K mg base N__law_is_whole "_law_is_whole" (defScope s__law_is_whole) A.f__law_is_whole cdv Ar outer s H E) (fun cls d _ H' => E cls d H') := L2N.takes_of rfl rfl rfl rfl
  have hu : Un0 (Ar.deeper (envOfC "_law_is_whole" (defScope s__law_is_whole) s.heap.objs.size A.f__law_is_whole cdv)) := hr.un0
  exact (qss_one (qs_ret (q_and (q_isi ans_int rfl T.z_isinstance rfl T.z_int (by decide +kernel) (qv 0)) (q_one (q_not (q_isi ans_bool rfl T.z_isinstance rfl T.z_bool (by decide +kernel) (qv 0)))))))
theorem ok__law_some_code (T : Txt P w K mg base A) (IH : AllD P w K mg base A k W) : FnD P w K mg base (k + 1) A.f__law_some_code A.fd__law_some_code ["feed", "most"] (bodyF 6 (b__law_some_code W)) := by
  refine T.F__law_some_code.okD (N := N__law_some_code) (b := b__law_some_code W) sc__law_some_code fun cdv Ar outer s H E hr => ?_
  have tk : L2N.Takes (cxOf (L2N.CX P w) P w K mg base N__law_some_code "_law_some_code" (defScope s__law_some_code) A.f__law_some_code cdv Ar outer s H E) (fun cls d _ H' => E cls d H') := L2N.takes_of rfl rfl rfl rfl
  have hu : Un0 (Ar.deeper (envOfC "_law_some_code" (defScope s__law_some_code) s.heap.objs.size A.f__law_some_code cdv)) := hr.un0
  exact (qss_cons (qs_setC (n := 2) rfl sc__law_some_code.nd rfl rfl (sw_true rfl rfl rfl (by decide +kernel)) (qi_rng1 rfl T.z_range (qa_cons (q_op oq_add q_int (q_call IH.d__law_draw hr rfl T.g__law_draw T.k__law_draw T.bd__law_draw tk (qa_cons (qv 0) (qa_cons (qv 1) qa_nil)))) qa_nil)) (blkOk_by (own := [("k", 4)]) (N := N__law_some_code) (sc := defScope s__law_some_code) (by decide +kernel)) (fun _ _ _ _ _ => pg_name (i := 4) sc__law_some_code.nd rfl (Or.inl rfl)) (fun _ _ _ _ _ => qts_nil) (fun _ _ _ _ _ => (q_ix (q_lst (qa_cons q_str (qa_cons q_str (qa_cons q_str (qa_cons q_str qa_nil))))) (q_call IH.d__law_draw hr rfl T.g__law_draw T.k__law_draw T.bd__law_draw takesF (qa_cons (qv 0) (qa_cons q_int qa_nil))))))
      (qss_cons (qs_for (passes_of rfl) rfl (qi_rng1 rfl T.z_range (qa_cons (qv 1) qa_nil)) (qg_name (i := 3) sc__law_some_code.nd rfl (by first | exact Or.inl rfl | exact Or.inr rfl)) (qss_one (qs_if (qt_cmp oq_gt (q_callB cq_len rfl T.z_len (by decide +kernel) (qa_cons (qv 2) qa_nil)) q_int) (qss_cons (qs_set (i := 5) sc__law_some_code.nd rfl (by first | exact Or.inl rfl | exact Or.inr rfl) (q_call IH.d__law_draw hr rfl T.g__law_draw T.k__law_draw T.bd__law_draw tk (qa_cons (qv 0) (qa_cons (q_op oq_sub (q_callB cq_len rfl T.z_len (by decide +kernel) (qa_cons (qv 2) qa_nil)) q_int) qa_nil))))
      (qss_cons (qs_if (qt_cmp (oq_eq hu) (q_call IH.d__law_draw hr rfl T.g__law_draw T.k__law_draw T.bd__law_draw tk (qa_cons (qv 0) (qa_cons q_int qa_nil))) q_int) (qss_one (qs_set (i := 5) sc__law_some_code.nd rfl (by first | exact Or.inl rfl | exact Or.inr rfl) q_int)) qss_nil)
      (qss_one (qs_set (i := 2) sc__law_some_code.nd rfl (by first | exact Or.inl rfl | exact Or.inr rfl) (q_op oq_add (q_op oq_add (q_cut (qv 2) qo_none (qo_some (qv 5))) (q_lst (qa_cons (q_tup (qa_cons (q_ix (qv 2) (qv 5)) (qa_cons (q_ix (qv 2) (q_op oq_add (qv 5) q_int)) qa_nil))) qa_nil))) (q_cut (qv 2) (qo_some (q_op oq_add (qv 5) q_int)) qo_none)))))) qss_nil)))
      (qss_one (qs_ret (q_ix (qv 2) q_int)))))
theorem ok__law_code_text (T : Txt P w K mg base A) (IH : AllD P w K mg base A k W) : FnD P w K mg base (k + 1) A.f__law_code_text A.fd__law_code_text ["code"] (bodyF 1 (b__law_code_text W)) := by
  refine T.F__law_code_text.okD (N := N__law_code_text) (b := b__law_code_text W) sc__law_code_text fun cdv Ar outer s H E hr => ?_
  have tk : L2N.Takes (cxOf (L2N.CX P w) P w K mg base N__law_code_text "_law_code_text" (defScope s__law_code_text) A.f__law_code_text cdv Ar outer s H E) (fun cls d _ H' => E cls d H') := L2N.takes_of rfl rfl rfl rfl
  have hu : Un0 (Ar.deeper (envOfC "_law_code_text" (defScope s__law_code_text) s.heap.objs.size A.f__law_code_text cdv)) := hr.un0
  exact (qss_cons (qs_if (qt (q_isi ans_str rfl T.z_isinstance rfl T.z_str (by decide +kernel) (qv 0))) (qss_one (qs_ret (qv 0))) qss_nil)
      (qss_one (qs_ret (q_op oq_add (q_op oq_add (q_op oq_add q_str (q_call IH.d__law_code_text hr rfl T.g__law_code_text T.k__law_code_text T.bd__law_code_text tk (qa_cons (q_ix (qv 0) q_int) qa_nil))) (q_call IH.d__law_code_text hr rfl T.g__law_code_text T.k__law_code_text T.bd__law_code_text tk (qa_cons (q_ix (qv 0) q_int) qa_nil))) q_str))))
theorem ok__law_told (T : Txt P w K mg base A) (IH : AllD P w K mg base A k W) : FnD P w K mg base (k + 1) A.f__law_told A.fd__law_told ["text"] (bodyF 3 (b__law_told W)) := by
  refine T.F__law_told.okD (N := N__law_told) (b := b__law_told W) sc__law_told fun cdv Ar outer s H E hr => ?_
  have tk : L2N.Takes (cxOf (L2N.CX P w) P w K mg base N__law_told "_law_told" (defScope s__law_told) A.f__law_told cdv Ar outer s H E) (fun cls d _ H' => E cls d H') := L2N.takes_of rfl rfl rfl rfl
  have hu : Un0 (Ar.deeper (envOfC "_law_told" (defScope s__law_told) s.heap.objs.size A.f__law_told cdv)) := hr.un0
  exact (qss_cons (qs_try (i := 1) (sub := sub_BadText) (su := fun _ a dd => (dSeq (dIf (dOr (dNot (dB (dIsE a "BadText" dd true (dVar 1)))) (dOr (dB (dIsE a "BadText" dd false (dVar 1))) (dNot (dB (dCall (bodyF 1 (b__law_is_whole fun _ => noF)) (dCons (dXf a "BadText" dd "at" (dVar 1)) dNil)))))) (dRet (dTup (dCons (dC (.str "error")) (dCons (dC (.int 0)) dNil)))) dNext)
      (dRet (dTup (dCons (dC (.str "bad")) (dCons (dXf a "BadText" dd "at" (dVar 1)) dNil)))))) rfl rfl sc__law_told.nd rfl rfl ⟨rfl, by decide, .inl T.g_BadText⟩ tk (T.sub_BadText)
        (fun Wt pn xe tk2 hp2 => (qss_one (qs_set (i := 2) sc__law_told.nd rfl (by first | exact Or.inl rfl | exact Or.inr rfl) (q_call IH.d_code_of_text hr rfl T.g_code_of_text T.k_code_of_text T.bd_code_of_text tk2 (qa_cons (qv 0) qa_nil)))))
        (fun a oe C cn dd pn hm hsb hz hf => by
          obtain rfl := sub_BadText_is hsb
          obtain rfl : C = A.c_BadText := by have z := hm.symm.trans T.g_BadText; cases z; rfl
          exact (qss_cons (qs_if (qt_bool (qw_or (qt_not (qt (q_isE (bb := true) T.ec_BadText hz hf T.ki_BadText_OnceError rfl T.z_isinstance rfl T.g_OnceError (qv 1)))) (qw_or (qt (q_isE (bb := false) T.ec_BadText hz hf T.ki_BadText_BadBytes rfl T.z_isinstance rfl T.g_BadBytes (qv 1))) (qw_or1 (qt_not (qt (q_callH T.h__law_is_whole (roomH_suite hr) (hot_suite hz hf) rfl T.g__law_is_whole T.k__law_is_whole T.bd__law_is_whole (qa_cons (q_xf (T.xf_BadText) (T.no_BadText_at) hz hf (qv 1)) qa_nil)))))))) (qss_one (qs_ret (q_tup (qa_cons q_str (qa_cons q_int qa_nil))))) qss_nil)
      (qss_one (qs_ret (q_tup (qa_cons q_str (qa_cons (q_xf (T.xf_BadText) (T.no_BadText_at) hz hf (qv 1)) qa_nil))))))))
      (qss_one (qs_ret (q_tup (qa_cons q_str (qa_cons (qv 2) qa_nil))))))
theorem ok__law_due (T : Txt P w K mg base A) (IH : AllD P w K mg base A k W) : FnD P w K mg base (k + 1) A.f__law_due A.fd__law_due ["text"] (bodyG 8 (b__law_due W)) := by
  refine FnD.less (F := bodyF 8 (b__law_due W)) ?_
  refine T.F__law_due.okD (N := N__law_due) (b := b__law_due W) sc__law_due fun cdv Ar outer s H E hr => ?_
  have tk : L2N.Takes (cxOf (L2N.CX P w) P w K mg base N__law_due "_law_due" (defScope s__law_due) A.f__law_due cdv Ar outer s H E) (fun cls d _ H' => E cls d H') := L2N.takes_of rfl rfl rfl rfl
  have hu : Un0 (Ar.deeper (envOfC "_law_due" (defScope s__law_due) s.heap.objs.size A.f__law_due cdv)) := hr.un0
  exact (qss_cons (qs_set (i := 1) sc__law_due.nd rfl (by first | exact Or.inl rfl | exact Or.inr rfl) (q_new qa_nil))
      (qss_cons (qs_set (i := 2) sc__law_due.nd rfl (by first | exact Or.inl rfl | exact Or.inr rfl) q_non)
      (qss_cons (qs_for (passes_of rfl) rfl (qi_rng1 rfl T.z_range (qa_cons (q_callB cq_len rfl T.z_len (by decide +kernel) (qa_cons (qv 0) qa_nil)) qa_nil)) (qg_name (i := 3) sc__law_due.nd rfl (by first | exact Or.inl rfl | exact Or.inr rfl)) (qss_cons (qs_set (i := 4) sc__law_due.nd rfl (by first | exact Or.inl rfl | exact Or.inr rfl) (q_ix (qv 0) (qv 3)))
      (qss_cons (qs_set (i := 5) sc__law_due.nd rfl (by first | exact Or.inl rfl | exact Or.inr rfl) q_non)
      (qss_cons (qs_if (qt_notN (qv 2)) (qss_one (qs_ret (q_tup (qa_cons q_str (qa_cons (qv 3) qa_nil))))) qss_nil)
      (qss_cons (qs_if (qt_bool (qw_and (qt_cmp (oq_eq hu) (qv 4) q_str) (qw_and1 (qt_bool (qw_or (qt_cmp (oq_eq hu) (q_callB cq_len rfl T.z_len (by decide +kernel) (qa_cons (qv 1) qa_nil)) q_int) (qw_or1 (qt_cmp oq_lt (q_callB cq_len rfl T.z_len (by decide +kernel) (qa_cons (q_ix (qv 1) (q_neg q_int)) qa_nil)) q_int))))))) (qss_one (qs_expr (q_app (qv 1) (q_new qa_nil)))) (qss_one (qs_if (qt_bool (qw_and (qt_cmp (oq_in hu) (qv 4) (q_lst (qa_cons q_str (qa_cons q_str (qa_cons q_str qa_nil))))) (qw_and1 (qt_bool (qw_or (qt_cmp (oq_eq hu) (q_callB cq_len rfl T.z_len (by decide +kernel) (qa_cons (qv 1) qa_nil)) q_int) (qw_or1 (qt_cmp oq_lt (q_callB cq_len rfl T.z_len (by decide +kernel) (qa_cons (q_ix (qv 1) (q_neg q_int)) qa_nil)) q_int))))))) (qss_one (qs_set (i := 5) sc__law_due.nd rfl (by first | exact Or.inl rfl | exact Or.inr rfl) (qv 4))) (qss_one (qs_if (qt_bool (qw_and (qt_cmp (oq_eq hu) (qv 4) q_str) (qw_and (qt_cmp oq_gt (q_callB cq_len rfl T.z_len (by decide +kernel) (qa_cons (qv 1) qa_nil)) q_int) (qw_and1 (qt_cmp (oq_eq hu) (q_callB cq_len rfl T.z_len (by decide +kernel) (qa_cons (q_ix (qv 1) (q_neg q_int)) qa_nil)) q_int))))) (qss_cons (qs_set (i := 6) sc__law_due.nd rfl (by first | exact Or.inl rfl | exact Or.inr rfl) (q_pop (qv 1)))
      (qss_one (qs_set (i := 5) sc__law_due.nd rfl (by first | exact Or.inl rfl | exact Or.inr rfl) (q_tup (qa_cons (q_ix (qv 6) q_int) (qa_cons (q_ix (qv 6) q_int) qa_nil)))))) (qss_one (qs_ret (q_tup (qa_cons q_str (qa_cons (qv 3) qa_nil))))))))))
      (qss_one (qs_if (qt_bool (qw_and (qt_notN (qv 5)) (qw_and1 (qt_cmp (oq_eq hu) (q_callB cq_len rfl T.z_len (by decide +kernel) (qa_cons (qv 1) qa_nil)) q_int)))) (qss_one (qs_set (i := 2) sc__law_due.nd rfl (by first | exact Or.inl rfl | exact Or.inr rfl) (qv 5))) (qss_one (qs_if (qt_notN (qv 5)) (qss_one (qs_expr (q_app (q_ix (qv 1) (q_neg q_int)) (qv 5)))) qss_nil)))))))))
      (qss_cons (qs_if (qt_bool (qw_or (qt_isN (qv 2)) (qw_or1 (qt_cmp oq_gt (q_callB cq_len rfl T.z_len (by decide +kernel) (qa_cons (q_comp rfl sc__law_due.nd (qi_str (qv 0)) (blkOk_by (own := [("x", 7)]) (N := N__law_due) (sc := defScope s__law_due) (by decide +kernel)) (fun _ _ _ _ _ => pg_name (i := 7) sc__law_due.nd rfl (Or.inl rfl)) (fun _ _ _ _ _ => (qts_one (qt_cmp (oq_in hu) (qv 7) q_str))) (fun _ _ _ _ _ => (qv 7))) qa_nil)) q_int)))) (qss_one (qs_ret (q_tup (qa_cons q_str (qa_cons (q_callB cq_len rfl T.z_len (by decide +kernel) (qa_cons (qv 0) qa_nil)) qa_nil))))) qss_nil)
      (qss_one (qs_ret (q_tup (qa_cons q_str (qa_cons (qv 2) qa_nil)))))))))
theorem ok__law_bent (T : Txt P w K mg base A) (IH : AllD P w K mg base A k W) : FnD P w K mg base (k + 1) A.f__law_bent A.fd__law_bent ["feed", "text"] (bodyF 6 (b__law_bent W)) := by
  refine T.F__law_bent.okD (N := N__law_bent) (b := b__law_bent W) sc__law_bent fun cdv Ar outer s H E hr => ?_
  have tk : L2N.Takes (cxOf (L2N.CX P w) P w K mg base N__law_bent "_law_bent" (defScope s__law_bent) A.f__law_bent cdv Ar outer s H E) (fun cls d _ H' => E cls d H') := L2N.takes_of rfl rfl rfl rfl
  have hu : Un0 (Ar.deeper (envOfC "_law_bent" (defScope s__law_bent) s.heap.objs.size A.f__law_bent cdv)) := hr.un0
  exact (qss_cons (qs_set (i := 2) sc__law_bent.nd rfl (by first | exact Or.inl rfl | exact Or.inr rfl) (q_lst (qa_cons (q_op oq_add (qv 1) q_str) (qa_cons (q_op oq_add (qv 1) q_str) (qa_cons (q_op oq_add q_str (qv 1)) (qa_cons q_str (qa_cons (q_op oq_add (qv 1) (qv 1)) qa_nil)))))))
      (qss_cons (qs_for (passes_of rfl) rfl (qi_rng1 rfl T.z_range (qa_cons q_int qa_nil)) (qg_name (i := 3) sc__law_bent.nd rfl (by first | exact Or.inl rfl | exact Or.inr rfl)) (qss_cons (qs_set (i := 4) sc__law_bent.nd rfl (by first | exact Or.inl rfl | exact Or.inr rfl) (q_call IH.d__law_draw hr rfl T.g__law_draw T.k__law_draw T.bd__law_draw tk (qa_cons (qv 0) (qa_cons (q_callB cq_len rfl T.z_len (by decide +kernel) (qa_cons (qv 1) qa_nil)) qa_nil))))
      (qss_cons (qs_set (i := 5) sc__law_bent.nd rfl (by first | exact Or.inl rfl | exact Or.inr rfl) (q_ix q_str (q_call IH.d__law_draw hr rfl T.g__law_draw T.k__law_draw T.bd__law_draw tk (qa_cons (qv 0) (qa_cons q_int qa_nil)))))
      (qss_one (qs_set (i := 2) sc__law_bent.nd rfl (by first | exact Or.inl rfl | exact Or.inr rfl) (q_op oq_add (qv 2) (q_lst (qa_cons (q_cut (qv 1) qo_none (qo_some (qv 4))) (qa_cons (q_op oq_add (q_cut (qv 1) qo_none (qo_some (qv 4))) (q_cut (qv 1) (qo_some (q_op oq_add (qv 4) q_int)) qo_none)) (qa_cons (q_op oq_add (q_op oq_add (q_cut (qv 1) qo_none (qo_some (qv 4))) (qv 5)) (q_cut (qv 1) (qo_some (q_op oq_add (qv 4) q_int)) qo_none)) (qa_cons (q_op oq_add (q_op oq_add (q_cut (qv 1) qo_none (qo_some (qv 4))) (qv 5)) (q_cut (qv 1) (qo_some (qv 4)) qo_none)) (qa_cons (q_op oq_add (q_op oq_add (q_cut (qv 1) qo_none (qo_some (qv 4))) (q_ix (qv 1) (qv 4))) (q_cut (qv 1) (qo_some (qv 4)) qo_none)) qa_nil))))))))))))
      (qss_one (qs_ret (qv 2)))))
theorem ok__law_long (T : Txt P w K mg base A) (IH : AllD P w K mg base A k W) : FnD P w K mg base (k + 1) A.f__law_long A.fd__law_long ["feed", "many"] (bodyF 5 (b__law_long W)) := by
  refine T.F__law_long.okD (N := N__law_long) (b := b__law_long W) sc__law_long fun cdv Ar outer s H E hr => ?_
  have tk : L2N.Takes (cxOf (L2N.CX P w) P w K mg base N__law_long "_law_long" (defScope s__law_long) A.f__law_long cdv Ar outer s H E) (fun cls d _ H' => E cls d H') := L2N.takes_of rfl rfl rfl rfl
  have hu : Un0 (Ar.deeper (envOfC "_law_long" (defScope s__law_long) s.heap.objs.size A.f__law_long cdv)) := hr.un0
  exact (qss_cons (qs_set (i := 2) sc__law_long.nd rfl (by first | exact Or.inl rfl | exact Or.inr rfl) q_str)
      (qss_cons (qs_for (passes_of rfl) rfl (qi_rng1 rfl T.z_range (qa_cons (q_op oq_sub (qv 1) q_int) qa_nil)) (qg_name (i := 3) sc__law_long.nd rfl (by first | exact Or.inl rfl | exact Or.inr rfl)) (qss_cons (qs_set (i := 4) sc__law_long.nd rfl (by first | exact Or.inl rfl | exact Or.inr rfl) (q_ix (q_lst (qa_cons q_str (qa_cons q_str (qa_cons q_str qa_nil)))) (q_call IH.d__law_draw hr rfl T.g__law_draw T.k__law_draw T.bd__law_draw tk (qa_cons (qv 0) (qa_cons q_int qa_nil)))))
      (qss_one (qs_set (i := 2) sc__law_long.nd rfl (by first | exact Or.inl rfl | exact Or.inr rfl) (q_ix (q_lst (qa_cons (q_tup (qa_cons (qv 2) (qa_cons (qv 4) qa_nil))) (qa_cons (q_tup (qa_cons (qv 4) (qa_cons (qv 2) qa_nil))) qa_nil))) (q_call IH.d__law_draw hr rfl T.g__law_draw T.k__law_draw T.bd__law_draw tk (qa_cons (qv 0) (qa_cons q_int qa_nil))))))))
      (qss_one (qs_ret (qv 2)))))
theorem ok_law (T : Txt P w K mg base A) (IH : AllD P w K mg base A k W) : FnD P w K mg base (k + 1) A.f_law A.fd_law ["script"] (bodyF 8 (b_law W)) := by
  refine T.F_law.okD (N := N_law) (b := b_law W) sc_law fun cdv Ar outer s H E hr => ?_
  have tk : L2N.Takes (cxOf (L2N.CX P w) P w K mg base N_law "law" (defScope s_law) A.f_law cdv Ar outer s H E) (fun cls d _ H' => E cls d H') := L2N.takes_of rfl rfl rfl rfl
  have hu : Un0 (Ar.deeper (envOfC "law" (defScope s_law) s.heap.objs.size A.f_law cdv)) := hr.un0
  exact (qss_cons (qs_set (i := 1) sc_law.nd rfl (by first | exact Or.inl rfl | exact Or.inr rfl) (q_call IH.d__law_feed hr rfl T.g__law_feed T.k__law_feed T.bd__law_feed tk (qa_cons (qv 0) qa_nil)))
      (qss_cons (qs_for (passes_of rfl) rfl (qi_rng1 rfl T.z_range (qa_cons q_int qa_nil)) (qg_name (i := 2) sc_law.nd rfl (by first | exact Or.inl rfl | exact Or.inr rfl)) (qss_cons (qs_set (i := 5) sc_law.nd rfl (by first | exact Or.inl rfl | exact Or.inr rfl) (q_call IH.d__law_some_code hr rfl T.g__law_some_code T.k__law_some_code T.bd__law_some_code tk (qa_cons (qv 1) (qa_cons q_int qa_nil))))
      (qss_cons (qs_set (i := 4) sc_law.nd rfl (by first | exact Or.inl rfl | exact Or.inr rfl) (q_call IH.d_text_of_code hr rfl T.g_text_of_code T.k_text_of_code T.bd_text_of_code tk (qa_cons (qv 5) qa_nil)))
      (qss_cons (qs_if (qt_bool (qw_or (qt_not (qt (q_isi ans_str rfl T.z_isinstance rfl T.z_str (by decide +kernel) (qv 4)))) (qw_or (qt_cmp (oq_ne hu) (qv 4) (q_call IH.d__law_code_text hr rfl T.g__law_code_text T.k__law_code_text T.bd__law_code_text tk (qa_cons (qv 5) qa_nil))) (qw_or (qt_cmp (oq_ne hu) (q_call IH.d__law_told hr rfl T.g__law_told T.k__law_told T.bd__law_told tk (qa_cons (qv 4) qa_nil)) (q_tup (qa_cons q_str (qa_cons (qv 5) qa_nil)))) (qw_or1 (qt_cmp (oq_ne hu) (q_callB (cq_repr hu) rfl T.z_repr (by decide +kernel) (qa_cons (q_call IH.d__law_told hr rfl T.g__law_told T.k__law_told T.bd__law_told tk (qa_cons (qv 4) qa_nil)) qa_nil)) (q_callB (cq_repr hu) rfl T.z_repr (by decide +kernel) (qa_cons (q_tup (qa_cons q_str (qa_cons (qv 5) qa_nil))) qa_nil)))))))) (qss_one (qs_ret q_bl)) qss_nil)
      (qss_cons (qs_for (passes_of rfl) rfl (qi_list (q_call IH.d__law_bent hr rfl T.g__law_bent T.k__law_bent T.bd__law_bent tk (qa_cons (qv 1) (qa_cons (qv 4) qa_nil)))) (qg_name (i := 6) sc_law.nd rfl (by first | exact Or.inl rfl | exact Or.inr rfl)) (qss_one (qs_if (qt_cmp (oq_ne hu) (q_call IH.d__law_told hr rfl T.g__law_told T.k__law_told T.bd__law_told tk (qa_cons (qv 6) qa_nil)) (q_call IH.d__law_due hr rfl T.g__law_due T.k__law_due T.bd__law_due tk (qa_cons (qv 6) qa_nil))) (qss_one (qs_ret q_bl)) qss_nil)))
      (qss_cons (qs_set (i := 6) sc_law.nd rfl (by first | exact Or.inl rfl | exact Or.inr rfl) (q_join q_str (q_comp rfl sc_law.nd (qi_rng1 rfl T.z_range (qa_cons (q_call IH.d__law_draw hr rfl T.g__law_draw T.k__law_draw T.bd__law_draw tk (qa_cons (qv 1) (qa_cons q_int qa_nil))) qa_nil)) (blkOk_by (own := [("k", 7)]) (N := N_law) (sc := defScope s_law) (by decide +kernel)) (fun _ _ _ _ _ => pg_name (i := 7) sc_law.nd rfl (Or.inl rfl)) (fun _ _ _ _ _ => qts_nil) (fun _ _ _ _ _ => (q_ix q_str (q_call IH.d__law_draw hr rfl T.g__law_draw T.k__law_draw T.bd__law_draw takesF (qa_cons (qv 1) (qa_cons q_int qa_nil))))))))
      (qss_one (qs_if (qt_cmp (oq_ne hu) (q_call IH.d__law_told hr rfl T.g__law_told T.k__law_told T.bd__law_told tk (qa_cons (qv 6) qa_nil)) (q_call IH.d__law_due hr rfl T.g__law_due T.k__law_due T.bd__law_due tk (qa_cons (qv 6) qa_nil))) (qss_one (qs_ret q_bl)) qss_nil))))))))
      (qss_cons (qs_set (i := 3) sc_law.nd rfl (by first | exact Or.inl rfl | exact Or.inr rfl) (q_op oq_add q_int (q_call IH.d__law_draw hr rfl T.g__law_draw T.k__law_draw T.bd__law_draw tk (qa_cons (qv 1) (qa_cons q_int qa_nil)))))
      (qss_cons (qs_set (i := 4) sc_law.nd rfl (by first | exact Or.inl rfl | exact Or.inr rfl) (q_call IH.d__law_code_text hr rfl T.g__law_code_text T.k__law_code_text T.bd__law_code_text tk (qa_cons (q_call IH.d__law_long hr rfl T.g__law_long T.k__law_long T.bd__law_long tk (qa_cons (qv 1) (qa_cons (qv 3) qa_nil))) qa_nil)))
      (qss_cons (qs_if (qt_bool (qw_or (qt_cmp (oq_ne hu) (q_call IH.d__law_told hr rfl T.g__law_told T.k__law_told T.bd__law_told tk (qa_cons (qv 4) qa_nil)) (q_call IH.d__law_due hr rfl T.g__law_due T.k__law_due T.bd__law_due tk (qa_cons (qv 4) qa_nil))) (qw_or1 (qt_cmp (oq_ne hu) (q_cmp (oq_eq hu) (q_ix (q_call IH.d__law_told hr rfl T.g__law_told T.k__law_told T.bd__law_told tk (qa_cons (qv 4) qa_nil)) q_int) q_str) (q_cmp oq_gt (qv 3) q_int))))) (qss_one (qs_ret q_bl)) qss_nil)
      (qss_cons (qs_if (qt_bool (qw_or (qt_cmp (oq_ne hu) (q_call IH.d_text_of_code hr rfl T.g_text_of_code T.k_text_of_code T.bd_text_of_code tk (qa_cons (q_tup (qa_cons (q_tup (qa_cons q_str (qa_cons q_str qa_nil))) (qa_cons q_str qa_nil))) qa_nil)) q_str) (qw_or (qt_cmp (oq_ne hu) (q_call IH.d__law_told hr rfl T.g__law_told T.k__law_told T.bd__law_told tk (qa_cons q_str qa_nil)) (q_tup (qa_cons q_str (qa_cons q_int qa_nil)))) (qw_or (qt_cmp (oq_ne hu) (q_call IH.d__law_told hr rfl T.g__law_told T.k__law_told T.bd__law_told tk (qa_cons q_str qa_nil)) (q_tup (qa_cons q_str (qa_cons q_int qa_nil)))) (qw_or1 (qt_cmp (oq_ne hu) (q_call IH.d__law_told hr rfl T.g__law_told T.k__law_told T.bd__law_told tk (qa_cons q_str qa_nil)) (q_tup (qa_cons q_str (qa_cons q_int qa_nil))))))))) (qss_one (qs_ret q_bl)) qss_nil)
      (qss_one (qs_ret (q_and (q_cmp (oq_eq hu) (q_call IH.d__law_told hr rfl T.g__law_told T.k__law_told T.bd__law_told tk (qa_cons q_str qa_nil)) (q_tup (qa_cons q_str (qa_cons q_int qa_nil)))) (q_and (q_cmp (oq_eq hu) (q_call IH.d__law_told hr rfl T.g__law_told T.k__law_told T.bd__law_told tk (qa_cons q_str qa_nil)) (q_tup (qa_cons q_str (qa_cons q_int qa_nil)))) (q_and (q_cmp (oq_eq hu) (q_call IH.d__law_told hr rfl T.g__law_told T.k__law_told T.bd__law_told tk (qa_cons q_str qa_nil)) (q_tup (qa_cons q_str (qa_cons q_int qa_nil)))) (q_one (q_cmp (oq_eq hu) (q_call IH.d__law_told hr rfl T.g__law_told T.k__law_told T.bd__law_told tk (qa_cons q_str qa_nil)) (q_tup (qa_cons q_str (qa_cons q_int qa_nil))))))))))))))))
theorem all_ok (T : Txt P w K mg base A) : ∀ k, AllD P w K mg base A k (WW k)
  | 0 => ⟨FnD.never, FnD.never, FnD.never, FnD.never, FnD.never, FnD.never, FnD.never, FnD.never, FnD.never, FnD.never, FnD.never, FnD.never, FnD.never, FnD.never, FnD.never, FnD.never⟩
  | k + 1 => ⟨ok_is_use T (all_ok T k), ok_count_joiners T (all_ok T k), ok_text_of_code T (all_ok T k), ok_taken T (all_ok T k), ok_code_from T (all_ok T k), ok_code_of_text T (all_ok T k), ok__law_feed T (all_ok T k), ok__law_draw T (all_ok T k), ok__law_is_whole T (all_ok T k), ok__law_some_code T (all_ok T k), ok__law_code_text T (all_ok T k), ok__law_told T (all_ok T k), ok__law_due T (all_ok T k), ok__law_bent T (all_ok T k), ok__law_long T (all_ok T k), ok_law T (all_ok T k)⟩
end
end Once

namespace Once
open PySem PySem.Spec PyProof.Rows L2
/-! ## The end -/
theorem hot__law_is_whole {P : Program} {w : World} {K : PySem.W.Frag} {mg : Str → Option Value} {base : Heap} {f : Addr} {fd : FuncData} (F : Fun K "_law_is_whole" "_law_is_whole" s__law_is_whole f fd) (z_abs : mg "abs" = none) (z_bool : mg "bool" = none) (z_int : mg "int" = none) (z_isinstance : mg "isinstance" = none) (z_len : mg "len" = none) (z_list : mg "list" = none) (z_range : mg "range" = none) (z_repr : mg "repr" = none) (z_str : mg "str" = none) (z_tuple : mg "tuple" = none) : FnHD P w K mg base 1 f fd ["x"] (bodyF 1 (b__law_is_whole fun _ => noF)) := by
  refine fn_ofHD (N := N__law_is_whole) (b := b__law_is_whole fun _ => noF) F sc__law_is_whole (fun cdv Ar outer s H E p hot => ?_) (fun ds μ x k h => ?_)
  · exact (qss_one (qs_ret (q_and (q_isi ans_int rfl z_isinstance rfl z_int (by decide +kernel) (qv 0)) (q_one (q_not (q_isi ans_bool rfl z_isinstance rfl z_bool (by decide +kernel) (qv 0)))))))
  · exact h
theorem all_mk {l : PySem.W.OpenLaw} {w : World} {K : PySem.W.Frag} {h : Heap} {mg : Str → Option Value} {fa : Addr} (X : K.In h) (G : h.Ns mainGlobals mg) (hfa : mg "law" = some (.ref fa))
    {f_is_use : Addr} {od_is_use an_is_use : Option Addr} {sl_is_use : Array (Option Value)} {oc_is_use kV_is_use dc_is_use pm_is_use cd_is_use ct_is_use : Value}
    {f_count_joiners : Addr} {od_count_joiners an_count_joiners : Option Addr} {sl_count_joiners : Array (Option Value)} {oc_count_joiners kV_count_joiners dc_count_joiners pm_count_joiners cd_count_joiners ct_count_joiners : Value}
    {f_text_of_code : Addr} {od_text_of_code an_text_of_code : Option Addr} {sl_text_of_code : Array (Option Value)} {oc_text_of_code kV_text_of_code dc_text_of_code pm_text_of_code cd_text_of_code ct_text_of_code : Value}
    {f_taken : Addr} {od_taken an_taken : Option Addr} {sl_taken : Array (Option Value)} {oc_taken kV_taken dc_taken pm_taken cd_taken ct_taken : Value}
    {f_code_from : Addr} {od_code_from an_code_from : Option Addr} {sl_code_from : Array (Option Value)} {oc_code_from kV_code_from dc_code_from pm_code_from cd_code_from ct_code_from : Value}
    {f_code_of_text : Addr} {od_code_of_text an_code_of_text : Option Addr} {sl_code_of_text : Array (Option Value)} {oc_code_of_text kV_code_of_text dc_code_of_text pm_code_of_text cd_code_of_text ct_code_of_text : Value}
    {f__law_feed : Addr} {od__law_feed an__law_feed : Option Addr} {sl__law_feed : Array (Option Value)} {oc__law_feed kV__law_feed dc__law_feed pm__law_feed cd__law_feed ct__law_feed : Value}
    {f__law_draw : Addr} {od__law_draw an__law_draw : Option Addr} {sl__law_draw : Array (Option Value)} {oc__law_draw kV__law_draw dc__law_draw pm__law_draw cd__law_draw ct__law_draw : Value}
    {f__law_is_whole : Addr} {od__law_is_whole an__law_is_whole : Option Addr} {sl__law_is_whole : Array (Option Value)} {oc__law_is_whole kV__law_is_whole dc__law_is_whole pm__law_is_whole cd__law_is_whole ct__law_is_whole : Value}
    {f__law_some_code : Addr} {od__law_some_code an__law_some_code : Option Addr} {sl__law_some_code : Array (Option Value)} {oc__law_some_code kV__law_some_code dc__law_some_code pm__law_some_code cd__law_some_code ct__law_some_code : Value}
    {f__law_code_text : Addr} {od__law_code_text an__law_code_text : Option Addr} {sl__law_code_text : Array (Option Value)} {oc__law_code_text kV__law_code_text dc__law_code_text pm__law_code_text cd__law_code_text ct__law_code_text : Value}
    {f__law_told : Addr} {od__law_told an__law_told : Option Addr} {sl__law_told : Array (Option Value)} {oc__law_told kV__law_told dc__law_told pm__law_told cd__law_told ct__law_told : Value}
    {f__law_due : Addr} {od__law_due an__law_due : Option Addr} {sl__law_due : Array (Option Value)} {oc__law_due kV__law_due dc__law_due pm__law_due cd__law_due ct__law_due : Value}
    {f__law_bent : Addr} {od__law_bent an__law_bent : Option Addr} {sl__law_bent : Array (Option Value)} {oc__law_bent kV__law_bent dc__law_bent pm__law_bent cd__law_bent ct__law_bent : Value}
    {f__law_long : Addr} {od__law_long an__law_long : Option Addr} {sl__law_long : Array (Option Value)} {oc__law_long kV__law_long dc__law_long pm__law_long cd__law_long ct__law_long : Value}
    {f_law : Addr} {od_law an_law : Option Addr} {sl_law : Array (Option Value)} {oc_law kV_law dc_law pm_law cd_law ct_law : Value}
    {f_BadText_init : Addr} {od_BadText_init an_BadText_init : Option Addr} {sl_BadText_init : Array (Option Value)} {oc_BadText_init kV_BadText_init dc_BadText_init pm_BadText_init cd_BadText_init ct_BadText_init : Value}
    {c_OnceError : Addr}
    {c_BadText : Addr}
    {c_BadBytes : Addr}
    {nm_BadText q_BadText : Str} {N_BadText : Addr} {bs_BadText : List Value} {sn_BadText : List Str} {sb_BadText : List Value} {ab_BadText : Bool} {col_BadText : Option Bool} {dd_BadText : Option Addr} {m0_BadText m1_BadText m2_BadText m3_BadText m5_BadText : Option Value}
    {t_MOST_JOINERS : Tok}
    (g_OnceError : PySem.W.nsIn K mainGlobals "OnceError" = some (some (.ref c_OnceError)))
    (g_BadText : PySem.W.nsIn K mainGlobals "BadText" = some (some (.ref c_BadText)))
    (g_BadBytes : PySem.W.nsIn K mainGlobals "BadBytes" = some (some (.ref c_BadBytes)))
    (a_is_use : PySem.W.nsIn K mainGlobals "is_use" = some (some (.ref f_is_use)))
    (l_is_use : K.lookup f_is_use = some ⟨oc_is_use, od_is_use, .func (PySem.W.fnOf "is_use" "is_use" (defArgs s_is_use) (defBody s_is_use) (defScope s_is_use) .none kV_is_use dc_is_use pm_is_use an_is_use cd_is_use ct_is_use), sl_is_use⟩)
    (e_is_use : PySem.W.codeIn K cd_is_use "is_use" = true)
    (k_is_use : PySem.W.keepIn K (.ref f_is_use) = true)
    (a_count_joiners : PySem.W.nsIn K mainGlobals "count_joiners" = some (some (.ref f_count_joiners)))
    (l_count_joiners : K.lookup f_count_joiners = some ⟨oc_count_joiners, od_count_joiners, .func (PySem.W.fnOf "count_joiners" "count_joiners" (defArgs s_count_joiners) (defBody s_count_joiners) (defScope s_count_joiners) .none kV_count_joiners dc_count_joiners pm_count_joiners an_count_joiners cd_count_joiners ct_count_joiners), sl_count_joiners⟩)
    (e_count_joiners : PySem.W.codeIn K cd_count_joiners "count_joiners" = true)
    (k_count_joiners : PySem.W.keepIn K (.ref f_count_joiners) = true)
    (a_text_of_code : PySem.W.nsIn K mainGlobals "text_of_code" = some (some (.ref f_text_of_code)))
    (l_text_of_code : K.lookup f_text_of_code = some ⟨oc_text_of_code, od_text_of_code, .func (PySem.W.fnOf "text_of_code" "text_of_code" (defArgs s_text_of_code) (defBody s_text_of_code) (defScope s_text_of_code) .none kV_text_of_code dc_text_of_code pm_text_of_code an_text_of_code cd_text_of_code ct_text_of_code), sl_text_of_code⟩)
    (e_text_of_code : PySem.W.codeIn K cd_text_of_code "text_of_code" = true)
    (k_text_of_code : PySem.W.keepIn K (.ref f_text_of_code) = true)
    (a_taken : PySem.W.nsIn K mainGlobals "taken" = some (some (.ref f_taken)))
    (l_taken : K.lookup f_taken = some ⟨oc_taken, od_taken, .func (PySem.W.fnOf "taken" "taken" (defArgs s_taken) (defBody s_taken) (defScope s_taken) .none kV_taken dc_taken pm_taken an_taken cd_taken ct_taken), sl_taken⟩)
    (e_taken : PySem.W.codeIn K cd_taken "taken" = true)
    (k_taken : PySem.W.keepIn K (.ref f_taken) = true)
    (a_code_from : PySem.W.nsIn K mainGlobals "code_from" = some (some (.ref f_code_from)))
    (l_code_from : K.lookup f_code_from = some ⟨oc_code_from, od_code_from, .func (PySem.W.fnOf "code_from" "code_from" (defArgs s_code_from) (defBody s_code_from) (defScope s_code_from) .none kV_code_from dc_code_from pm_code_from an_code_from cd_code_from ct_code_from), sl_code_from⟩)
    (e_code_from : PySem.W.codeIn K cd_code_from "code_from" = true)
    (k_code_from : PySem.W.keepIn K (.ref f_code_from) = true)
    (a_code_of_text : PySem.W.nsIn K mainGlobals "code_of_text" = some (some (.ref f_code_of_text)))
    (l_code_of_text : K.lookup f_code_of_text = some ⟨oc_code_of_text, od_code_of_text, .func (PySem.W.fnOf "code_of_text" "code_of_text" (defArgs s_code_of_text) (defBody s_code_of_text) (defScope s_code_of_text) .none kV_code_of_text dc_code_of_text pm_code_of_text an_code_of_text cd_code_of_text ct_code_of_text), sl_code_of_text⟩)
    (e_code_of_text : PySem.W.codeIn K cd_code_of_text "code_of_text" = true)
    (k_code_of_text : PySem.W.keepIn K (.ref f_code_of_text) = true)
    (a__law_feed : PySem.W.nsIn K mainGlobals "_law_feed" = some (some (.ref f__law_feed)))
    (l__law_feed : K.lookup f__law_feed = some ⟨oc__law_feed, od__law_feed, .func (PySem.W.fnOf "_law_feed" "_law_feed" (defArgs s__law_feed) (defBody s__law_feed) (defScope s__law_feed) .none kV__law_feed dc__law_feed pm__law_feed an__law_feed cd__law_feed ct__law_feed), sl__law_feed⟩)
    (e__law_feed : PySem.W.codeIn K cd__law_feed "_law_feed" = true)
    (k__law_feed : PySem.W.keepIn K (.ref f__law_feed) = true)
    (a__law_draw : PySem.W.nsIn K mainGlobals "_law_draw" = some (some (.ref f__law_draw)))
    (l__law_draw : K.lookup f__law_draw = some ⟨oc__law_draw, od__law_draw, .func (PySem.W.fnOf "_law_draw" "_law_draw" (defArgs s__law_draw) (defBody s__law_draw) (defScope s__law_draw) .none kV__law_draw dc__law_draw pm__law_draw an__law_draw cd__law_draw ct__law_draw), sl__law_draw⟩)
    (e__law_draw : PySem.W.codeIn K cd__law_draw "_law_draw" = true)
    (k__law_draw : PySem.W.keepIn K (.ref f__law_draw) = true)
    (a__law_is_whole : PySem.W.nsIn K mainGlobals "_law_is_whole" = some (some (.ref f__law_is_whole)))
    (l__law_is_whole : K.lookup f__law_is_whole = some ⟨oc__law_is_whole, od__law_is_whole, .func (PySem.W.fnOf "_law_is_whole" "_law_is_whole" (defArgs s__law_is_whole) (defBody s__law_is_whole) (defScope s__law_is_whole) .none kV__law_is_whole dc__law_is_whole pm__law_is_whole an__law_is_whole cd__law_is_whole ct__law_is_whole), sl__law_is_whole⟩)
    (e__law_is_whole : PySem.W.codeIn K cd__law_is_whole "_law_is_whole" = true)
    (k__law_is_whole : PySem.W.keepIn K (.ref f__law_is_whole) = true)
    (a__law_some_code : PySem.W.nsIn K mainGlobals "_law_some_code" = some (some (.ref f__law_some_code)))
    (l__law_some_code : K.lookup f__law_some_code = some ⟨oc__law_some_code, od__law_some_code, .func (PySem.W.fnOf "_law_some_code" "_law_some_code" (defArgs s__law_some_code) (defBody s__law_some_code) (defScope s__law_some_code) .none kV__law_some_code dc__law_some_code pm__law_some_code an__law_some_code cd__law_some_code ct__law_some_code), sl__law_some_code⟩)
    (e__law_some_code : PySem.W.codeIn K cd__law_some_code "_law_some_code" = true)
    (k__law_some_code : PySem.W.keepIn K (.ref f__law_some_code) = true)
    (a__law_code_text : PySem.W.nsIn K mainGlobals "_law_code_text" = some (some (.ref f__law_code_text)))
    (l__law_code_text : K.lookup f__law_code_text = some ⟨oc__law_code_text, od__law_code_text, .func (PySem.W.fnOf "_law_code_text" "_law_code_text" (defArgs s__law_code_text) (defBody s__law_code_text) (defScope s__law_code_text) .none kV__law_code_text dc__law_code_text pm__law_code_text an__law_code_text cd__law_code_text ct__law_code_text), sl__law_code_text⟩)
    (e__law_code_text : PySem.W.codeIn K cd__law_code_text "_law_code_text" = true)
    (k__law_code_text : PySem.W.keepIn K (.ref f__law_code_text) = true)
    (a__law_told : PySem.W.nsIn K mainGlobals "_law_told" = some (some (.ref f__law_told)))
    (l__law_told : K.lookup f__law_told = some ⟨oc__law_told, od__law_told, .func (PySem.W.fnOf "_law_told" "_law_told" (defArgs s__law_told) (defBody s__law_told) (defScope s__law_told) .none kV__law_told dc__law_told pm__law_told an__law_told cd__law_told ct__law_told), sl__law_told⟩)
    (e__law_told : PySem.W.codeIn K cd__law_told "_law_told" = true)
    (k__law_told : PySem.W.keepIn K (.ref f__law_told) = true)
    (a__law_due : PySem.W.nsIn K mainGlobals "_law_due" = some (some (.ref f__law_due)))
    (l__law_due : K.lookup f__law_due = some ⟨oc__law_due, od__law_due, .func (PySem.W.fnOf "_law_due" "_law_due" (defArgs s__law_due) (defBody s__law_due) (defScope s__law_due) .none kV__law_due dc__law_due pm__law_due an__law_due cd__law_due ct__law_due), sl__law_due⟩)
    (e__law_due : PySem.W.codeIn K cd__law_due "_law_due" = true)
    (k__law_due : PySem.W.keepIn K (.ref f__law_due) = true)
    (a__law_bent : PySem.W.nsIn K mainGlobals "_law_bent" = some (some (.ref f__law_bent)))
    (l__law_bent : K.lookup f__law_bent = some ⟨oc__law_bent, od__law_bent, .func (PySem.W.fnOf "_law_bent" "_law_bent" (defArgs s__law_bent) (defBody s__law_bent) (defScope s__law_bent) .none kV__law_bent dc__law_bent pm__law_bent an__law_bent cd__law_bent ct__law_bent), sl__law_bent⟩)
    (e__law_bent : PySem.W.codeIn K cd__law_bent "_law_bent" = true)
    (k__law_bent : PySem.W.keepIn K (.ref f__law_bent) = true)
    (a__law_long : PySem.W.nsIn K mainGlobals "_law_long" = some (some (.ref f__law_long)))
    (l__law_long : K.lookup f__law_long = some ⟨oc__law_long, od__law_long, .func (PySem.W.fnOf "_law_long" "_law_long" (defArgs s__law_long) (defBody s__law_long) (defScope s__law_long) .none kV__law_long dc__law_long pm__law_long an__law_long cd__law_long ct__law_long), sl__law_long⟩)
    (e__law_long : PySem.W.codeIn K cd__law_long "_law_long" = true)
    (k__law_long : PySem.W.keepIn K (.ref f__law_long) = true)
    (a_law : PySem.W.nsIn K mainGlobals "law" = some (some (.ref f_law)))
    (l_law : K.lookup f_law = some ⟨oc_law, od_law, .func (PySem.W.fnOf "law" "law" (defArgs s_law) (defBody s_law) (defScope s_law) .none kV_law dc_law pm_law an_law cd_law ct_law), sl_law⟩)
    (e_law : PySem.W.codeIn K cd_law "law" = true)
    (k_law : PySem.W.keepIn K (.ref f_law) = true)
    (a_BadText_init : PySem.W.findIn K (.ref c_BadText) "__init__" = some (some (.ref f_BadText_init)))
    (l_BadText_init : K.lookup f_BadText_init = some ⟨oc_BadText_init, od_BadText_init, .func (PySem.W.fnOf "__init__" "BadText.__init__" (defArgs s_BadText_init) (defBody s_BadText_init) (defScope s_BadText_init) .none kV_BadText_init dc_BadText_init pm_BadText_init an_BadText_init cd_BadText_init ct_BadText_init), sl_BadText_init⟩)
    (e_BadText_init : PySem.W.codeIn K cd_BadText_init "BadText.__init__" = true)
    (k_BadText_init : PySem.W.keepIn K (.ref f_BadText_init) = true)
    (xL_BadText : K.lookup c_BadText = some (excClassObj nm_BadText q_BadText c_BadText N_BadText bs_BadText [.ref c_OnceError, .type "ValueError", .type "Exception", .type "BaseException", .type "object"] true sn_BadText sb_BadText ab_BadText col_BadText dd_BadText m0_BadText m1_BadText m2_BadText m3_BadText m5_BadText "ValueError.__new__"))
    (sa_BadText : PySem.W.findIn K (.ref c_BadText) "__setattr__" = some (some (.builtin "object.__setattr__")))
    (tf_BadText : PySem.W.typeIn K (.ref f_BadText_init) = some (.type "function"))
    (kc_BadText : PySem.W.keepIn K (.ref c_BadText) = true)
    (eC_BadText : PySem.W.subIn K (.ref c_BadText) (.type "BaseException") = some true)
    (tC_BadText : PySem.W.typeIn K (.ref c_BadText) = some (.type "type"))
    (no_BadText_at : PySem.W.findIn K (.ref c_BadText) "at" = some none)
    (ga_BadText : PySem.W.findIn K (.ref c_BadText) "__getattribute__" = some (some (.builtin "BaseException.__getattribute__")))
    (gg_BadText : PySem.W.findIn K (.ref c_BadText) "__getattr__" = some none)
    (hC_BadText : PySem.W.hasDictIn K c_BadText = true)
    (sC_BadText : PySem.W.subIn K (.ref c_BadText) (.ref c_BadText) = some true)
    (cl_BadText : PySem.W.findIn K (.ref c_BadText) "__class__" = some (some (.builtin "object.__class__")))
    (mo_BadText : PySem.W.mroIn K c_BadText (.type "object") = some true)
    (sp_ : PySem.W.specialIn K (.builtin "object.__class__") "__get__" = some (some (.builtin "getset_descriptor.__get__")))
    (tk_ : PySem.W.takesIn K (.builtin "object.__class__") = some true)
    (ki_BadText_BadBytes : PySem.W.kitOne K (.ref c_BadText) (.ref c_BadBytes) = some false)
    (ki_BadText_OnceError : PySem.W.kitOne K (.ref c_BadText) (.ref c_OnceError) = some true)
    (z_abs : PySem.W.nsIn K mainGlobals "abs" = some none)
    (z_bool : PySem.W.nsIn K mainGlobals "bool" = some none)
    (z_int : PySem.W.nsIn K mainGlobals "int" = some none)
    (z_isinstance : PySem.W.nsIn K mainGlobals "isinstance" = some none)
    (z_len : PySem.W.nsIn K mainGlobals "len" = some none)
    (z_list : PySem.W.nsIn K mainGlobals "list" = some none)
    (z_range : PySem.W.nsIn K mainGlobals "range" = some none)
    (z_repr : PySem.W.nsIn K mainGlobals "repr" = some none)
    (z_str : PySem.W.nsIn K mainGlobals "str" = some none)
    (z_tuple : PySem.W.nsIn K mainGlobals "tuple" = some none)
    (v_MOST_JOINERS : PySem.W.nsIn K mainGlobals "MOST_JOINERS" = some (some (.int 120 t_MOST_JOINERS)))
    : ∃ fd : FuncData, (∀ (s : Shared) (u : Value), BindsTo s fd ⟨[u], []⟩ [("script", u)]) ∧ ∀ base : Heap, K.In base → base.Ns mainGlobals mg → FnD l.prog w K mg base 300 fa fd ["script"] (WW 300 15) := by
  have e := hfa.symm.trans (PySem.W.mg_of X G a_law)
  cases e
  have F_is_use := fun_mk (st := s_is_use) l_is_use e_is_use k_is_use
  have bd_is_use := F_is_use.binds (ps := ["code"]) fun _ _ _ _ _ _ us hl => match us, hl with | [_], _ => rfl
  have F_count_joiners := fun_mk (st := s_count_joiners) l_count_joiners e_count_joiners k_count_joiners
  have bd_count_joiners := F_count_joiners.binds (ps := ["code"]) fun _ _ _ _ _ _ us hl => match us, hl with | [_], _ => rfl
  have F_text_of_code := fun_mk (st := s_text_of_code) l_text_of_code e_text_of_code k_text_of_code
  have bd_text_of_code := F_text_of_code.binds (ps := ["code"]) fun _ _ _ _ _ _ us hl => match us, hl with | [_], _ => rfl
  have F_taken := fun_mk (st := s_taken) l_taken e_taken k_taken
  have bd_taken := F_taken.binds (ps := ["text", "at", "allowed"]) fun _ _ _ _ _ _ us hl => match us, hl with | [_, _, _], _ => rfl
  have F_code_from := fun_mk (st := s_code_from) l_code_from e_code_from k_code_from
  have bd_code_from := F_code_from.binds (ps := ["text", "at"]) fun _ _ _ _ _ _ us hl => match us, hl with | [_, _], _ => rfl
  have F_code_of_text := fun_mk (st := s_code_of_text) l_code_of_text e_code_of_text k_code_of_text
  have bd_code_of_text := F_code_of_text.binds (ps := ["text"]) fun _ _ _ _ _ _ us hl => match us, hl with | [_], _ => rfl
  have F__law_feed := fun_mk (st := s__law_feed) l__law_feed e__law_feed k__law_feed
  have bd__law_feed := F__law_feed.binds (ps := ["script"]) fun _ _ _ _ _ _ us hl => match us, hl with | [_], _ => rfl
  have F__law_draw := fun_mk (st := s__law_draw) l__law_draw e__law_draw k__law_draw
  have bd__law_draw := F__law_draw.binds (ps := ["feed", "many"]) fun _ _ _ _ _ _ us hl => match us, hl with | [_, _], _ => rfl
  have F__law_is_whole := fun_mk (st := s__law_is_whole) l__law_is_whole e__law_is_whole k__law_is_whole
  have bd__law_is_whole := F__law_is_whole.binds (ps := ["x"]) fun _ _ _ _ _ _ us hl => match us, hl with | [_], _ => rfl
  have F__law_some_code := fun_mk (st := s__law_some_code) l__law_some_code e__law_some_code k__law_some_code
  have bd__law_some_code := F__law_some_code.binds (ps := ["feed", "most"]) fun _ _ _ _ _ _ us hl => match us, hl with | [_, _], _ => rfl
  have F__law_code_text := fun_mk (st := s__law_code_text) l__law_code_text e__law_code_text k__law_code_text
  have bd__law_code_text := F__law_code_text.binds (ps := ["code"]) fun _ _ _ _ _ _ us hl => match us, hl with | [_], _ => rfl
  have F__law_told := fun_mk (st := s__law_told) l__law_told e__law_told k__law_told
  have bd__law_told := F__law_told.binds (ps := ["text"]) fun _ _ _ _ _ _ us hl => match us, hl with | [_], _ => rfl
  have F__law_due := fun_mk (st := s__law_due) l__law_due e__law_due k__law_due
  have bd__law_due := F__law_due.binds (ps := ["text"]) fun _ _ _ _ _ _ us hl => match us, hl with | [_], _ => rfl
  have F__law_bent := fun_mk (st := s__law_bent) l__law_bent e__law_bent k__law_bent
  have bd__law_bent := F__law_bent.binds (ps := ["feed", "text"]) fun _ _ _ _ _ _ us hl => match us, hl with | [_, _], _ => rfl
  have F__law_long := fun_mk (st := s__law_long) l__law_long e__law_long k__law_long
  have bd__law_long := F__law_long.binds (ps := ["feed", "many"]) fun _ _ _ _ _ _ us hl => match us, hl with | [_, _], _ => rfl
  have F_law := fun_mk (st := s_law) l_law e_law k_law
  have bd_law := F_law.binds (ps := ["script"]) fun _ _ _ _ _ _ us hl => match us, hl with | [_], _ => rfl
  have F_BadText_init := fun_mk (st := s_BadText_init) l_BadText_init e_BadText_init k_BadText_init
  have bd_BadText_init := F_BadText_init.binds (ps := ["self", "at"]) fun _ _ _ _ _ _ us hl => match us, hl with | [_, _], _ => rfl
  have T_BadText : OexC K c_BadText := ⟨⟨_, _, _, _, _, _, _, _, _, _, _, _, _, _, _, xL_BadText, by rfl⟩, sa_BadText, eC_BadText, tC_BadText, kc_BadText⟩
  let A : Ads := { f_is_use := f_is_use, fd_is_use := (PySem.W.fnOf "is_use" "is_use" (defArgs s_is_use) (defBody s_is_use) (defScope s_is_use) .none kV_is_use dc_is_use pm_is_use an_is_use cd_is_use ct_is_use), f_count_joiners := f_count_joiners, fd_count_joiners := (PySem.W.fnOf "count_joiners" "count_joiners" (defArgs s_count_joiners) (defBody s_count_joiners) (defScope s_count_joiners) .none kV_count_joiners dc_count_joiners pm_count_joiners an_count_joiners cd_count_joiners ct_count_joiners), f_text_of_code := f_text_of_code, fd_text_of_code := (PySem.W.fnOf "text_of_code" "text_of_code" (defArgs s_text_of_code) (defBody s_text_of_code) (defScope s_text_of_code) .none kV_text_of_code dc_text_of_code pm_text_of_code an_text_of_code cd_text_of_code ct_text_of_code), f_taken := f_taken, fd_taken := (PySem.W.fnOf "taken" "taken" (defArgs s_taken) (defBody s_taken) (defScope s_taken) .none kV_taken dc_taken pm_taken an_taken cd_taken ct_taken), f_code_from := f_code_from, fd_code_from := (PySem.W.fnOf "code_from" "code_from" (defArgs s_code_from) (defBody s_code_from) (defScope s_code_from) .none kV_code_from dc_code_from pm_code_from an_code_from cd_code_from ct_code_from), f_code_of_text := f_code_of_text, fd_code_of_text := (PySem.W.fnOf "code_of_text" "code_of_text" (defArgs s_code_of_text) (defBody s_code_of_text) (defScope s_code_of_text) .none kV_code_of_text dc_code_of_text pm_code_of_text an_code_of_text cd_code_of_text ct_code_of_text), f__law_feed := f__law_feed, fd__law_feed := (PySem.W.fnOf "_law_feed" "_law_feed" (defArgs s__law_feed) (defBody s__law_feed) (defScope s__law_feed) .none kV__law_feed dc__law_feed pm__law_feed an__law_feed cd__law_feed ct__law_feed), f__law_draw := f__law_draw, fd__law_draw := (PySem.W.fnOf "_law_draw" "_law_draw" (defArgs s__law_draw) (defBody s__law_draw) (defScope s__law_draw) .none kV__law_draw dc__law_draw pm__law_draw an__law_draw cd__law_draw ct__law_draw), f__law_is_whole := f__law_is_whole, fd__law_is_whole := (PySem.W.fnOf "_law_is_whole" "_law_is_whole" (defArgs s__law_is_whole) (defBody s__law_is_whole) (defScope s__law_is_whole) .none kV__law_is_whole dc__law_is_whole pm__law_is_whole an__law_is_whole cd__law_is_whole ct__law_is_whole), f__law_some_code := f__law_some_code, fd__law_some_code := (PySem.W.fnOf "_law_some_code" "_law_some_code" (defArgs s__law_some_code) (defBody s__law_some_code) (defScope s__law_some_code) .none kV__law_some_code dc__law_some_code pm__law_some_code an__law_some_code cd__law_some_code ct__law_some_code), f__law_code_text := f__law_code_text, fd__law_code_text := (PySem.W.fnOf "_law_code_text" "_law_code_text" (defArgs s__law_code_text) (defBody s__law_code_text) (defScope s__law_code_text) .none kV__law_code_text dc__law_code_text pm__law_code_text an__law_code_text cd__law_code_text ct__law_code_text), f__law_told := f__law_told, fd__law_told := (PySem.W.fnOf "_law_told" "_law_told" (defArgs s__law_told) (defBody s__law_told) (defScope s__law_told) .none kV__law_told dc__law_told pm__law_told an__law_told cd__law_told ct__law_told), f__law_due := f__law_due, fd__law_due := (PySem.W.fnOf "_law_due" "_law_due" (defArgs s__law_due) (defBody s__law_due) (defScope s__law_due) .none kV__law_due dc__law_due pm__law_due an__law_due cd__law_due ct__law_due), f__law_bent := f__law_bent, fd__law_bent := (PySem.W.fnOf "_law_bent" "_law_bent" (defArgs s__law_bent) (defBody s__law_bent) (defScope s__law_bent) .none kV__law_bent dc__law_bent pm__law_bent an__law_bent cd__law_bent ct__law_bent), f__law_long := f__law_long, fd__law_long := (PySem.W.fnOf "_law_long" "_law_long" (defArgs s__law_long) (defBody s__law_long) (defScope s__law_long) .none kV__law_long dc__law_long pm__law_long an__law_long cd__law_long ct__law_long), f_law := fa, fd_law := (PySem.W.fnOf "law" "law" (defArgs s_law) (defBody s_law) (defScope s_law) .none kV_law dc_law pm_law an_law cd_law ct_law), c_OnceError := c_OnceError, c_BadText := c_BadText, f_BadText_init := f_BadText_init, fd_BadText_init := (PySem.W.fnOf "__init__" "BadText.__init__" (defArgs s_BadText_init) (defBody s_BadText_init) (defScope s_BadText_init) .none kV_BadText_init dc_BadText_init pm_BadText_init an_BadText_init cd_BadText_init ct_BadText_init), c_BadBytes := c_BadBytes, f_BadBytes_init := 0, fd_BadBytes_init := (PySem.W.fnOf "law" "law" (defArgs s_law) (defBody s_law) (defScope s_law) .none kV_law dc_law pm_law an_law cd_law ct_law) }
  refine ⟨(PySem.W.fnOf "law" "law" (defArgs s_law) (defBody s_law) (defScope s_law) .none kV_law dc_law pm_law an_law cd_law ct_law), fun s u => .of_eq rfl, fun base hK hB => ?_⟩
  have subs_BadText : ∀ (cn : Str) (C : Addr) (b : Bool), mg cn = some (.ref C) → sub_BadText cn = some b → PySem.W.exmOne K (.ref C) (.ref c_BadText) = some b := fun cn C b hm hs => by
    unfold sub_BadText at hs
    split at hs
    · rename_i ec; subst ec; cases hs
      have z := hm.symm.trans (PySem.W.mg_of X G g_BadText); cases z
      exact PySem.W.exm_ref eC_BadText hC_BadText tC_BadText sC_BadText
    · cases hs
  have T : Txt l.prog w K mg base A := {
    F_is_use := F_is_use,
    g_is_use := PySem.W.mg_of X G a_is_use,
    k_is_use := k_is_use,
    bd_is_use := bd_is_use,
    F_count_joiners := F_count_joiners,
    g_count_joiners := PySem.W.mg_of X G a_count_joiners,
    k_count_joiners := k_count_joiners,
    bd_count_joiners := bd_count_joiners,
    F_text_of_code := F_text_of_code,
    g_text_of_code := PySem.W.mg_of X G a_text_of_code,
    k_text_of_code := k_text_of_code,
    bd_text_of_code := bd_text_of_code,
    F_taken := F_taken,
    g_taken := PySem.W.mg_of X G a_taken,
    k_taken := k_taken,
    bd_taken := bd_taken,
    F_code_from := F_code_from,
    g_code_from := PySem.W.mg_of X G a_code_from,
    k_code_from := k_code_from,
    bd_code_from := bd_code_from,
    F_code_of_text := F_code_of_text,
    g_code_of_text := PySem.W.mg_of X G a_code_of_text,
    k_code_of_text := k_code_of_text,
    bd_code_of_text := bd_code_of_text,
    F__law_feed := F__law_feed,
    g__law_feed := PySem.W.mg_of X G a__law_feed,
    k__law_feed := k__law_feed,
    bd__law_feed := bd__law_feed,
    F__law_draw := F__law_draw,
    g__law_draw := PySem.W.mg_of X G a__law_draw,
    k__law_draw := k__law_draw,
    bd__law_draw := bd__law_draw,
    F__law_is_whole := F__law_is_whole,
    g__law_is_whole := PySem.W.mg_of X G a__law_is_whole,
    k__law_is_whole := k__law_is_whole,
    bd__law_is_whole := bd__law_is_whole,
    F__law_some_code := F__law_some_code,
    g__law_some_code := PySem.W.mg_of X G a__law_some_code,
    k__law_some_code := k__law_some_code,
    bd__law_some_code := bd__law_some_code,
    F__law_code_text := F__law_code_text,
    g__law_code_text := PySem.W.mg_of X G a__law_code_text,
    k__law_code_text := k__law_code_text,
    bd__law_code_text := bd__law_code_text,
    F__law_told := F__law_told,
    g__law_told := PySem.W.mg_of X G a__law_told,
    k__law_told := k__law_told,
    bd__law_told := bd__law_told,
    F__law_due := F__law_due,
    g__law_due := PySem.W.mg_of X G a__law_due,
    k__law_due := k__law_due,
    bd__law_due := bd__law_due,
    F__law_bent := F__law_bent,
    g__law_bent := PySem.W.mg_of X G a__law_bent,
    k__law_bent := k__law_bent,
    bd__law_bent := bd__law_bent,
    F__law_long := F__law_long,
    g__law_long := PySem.W.mg_of X G a__law_long,
    k__law_long := k__law_long,
    bd__law_long := bd__law_long,
    F_law := F_law,
    g_law := PySem.W.mg_of X G a_law,
    k_law := k_law,
    bd_law := bd_law,
    z_abs := PySem.W.mg_none_of X G z_abs,
    z_bool := PySem.W.mg_none_of X G z_bool,
    z_int := PySem.W.mg_none_of X G z_int,
    z_isinstance := PySem.W.mg_none_of X G z_isinstance,
    z_len := PySem.W.mg_none_of X G z_len,
    z_list := PySem.W.mg_none_of X G z_list,
    z_range := PySem.W.mg_none_of X G z_range,
    z_repr := PySem.W.mg_none_of X G z_repr,
    z_str := PySem.W.mg_none_of X G z_str,
    z_tuple := PySem.W.mg_none_of X G z_tuple,
    v_MOST_JOINERS := ⟨_, PySem.W.mg_of X G v_MOST_JOINERS⟩,
    g_OnceError := PySem.W.mg_of X G g_OnceError,
    g_BadText := PySem.W.mg_of X G g_BadText,
    g_BadBytes := PySem.W.mg_of X G g_BadBytes,
    er_BadText := ⟨T_BadText, a_BadText_init, tf_BadText, init1 F_BadText_init rfl ⟨rfl, rfl, rfl, by decide +kernel, rfl, by decide +kernel, by decide +kernel⟩ T_BadText no_BadText_at (by decide) (by decide) rfl rfl, bd_BadText_init, PySem.W.mg_of X G g_BadText⟩,
    sub_BadText := subs_BadText,
    xf_BadText := ⟨ga_BadText, gg_BadText, eC_BadText, hC_BadText⟩,
    ec_BadText := ⟨ga_BadText, gg_BadText, eC_BadText, hC_BadText, cl_BadText, sp_, tk_, mo_BadText⟩,
    no_BadText_at := no_BadText_at,
    ki_BadText_BadBytes := ki_BadText_BadBytes,
    ki_BadText_OnceError := ki_BadText_OnceError,
    h__law_is_whole := hot__law_is_whole F__law_is_whole (PySem.W.mg_none_of X G z_abs) (PySem.W.mg_none_of X G z_bool) (PySem.W.mg_none_of X G z_int) (PySem.W.mg_none_of X G z_isinstance) (PySem.W.mg_none_of X G z_len) (PySem.W.mg_none_of X G z_list) (PySem.W.mg_none_of X G z_range) (PySem.W.mg_none_of X G z_repr) (PySem.W.mg_none_of X G z_str) (PySem.W.mg_none_of X G z_tuple) }
  exact (all_ok T 300).d_law
end Once

open PySem PySem.W PyProof.Rows in
set_option maxRecDepth 100000 in
set_option maxHeartbeats 0 in
theorem PySem.Challenge.cw_oncelinks_k52_whole_codes_as_text_holds : PySem.Challenge.rw_oncelinks_k52_whole_codes_as_text.Holds := by
  w_on; o_law; k_head; (case hw => w_witness2)
  k_fill
  refine Once.walkD (l := PySem.Challenge.rw_oncelinks_k52_whole_codes_as_text) (n := 63) (k := 300) (F := Once.WW 300 15) (x := "script") rfl (by decide) (by decide) rfl (fun w h Y => PySem.W.kIn_of Y) Once.law_holds ?F
  case F =>
    intro w mg fa h KX G hmg
    refine' Once.all_mk KX G hmg ?g_OnceError ?g_BadText ?g_BadBytes ?a_is_use ?l_is_use ?e_is_use ?k_is_use ?a_count_joiners ?l_count_joiners ?e_count_joiners ?k_count_joiners ?a_text_of_code ?l_text_of_code ?e_text_of_code ?k_text_of_code ?a_taken ?l_taken ?e_taken ?k_taken ?a_code_from ?l_code_from ?e_code_from ?k_code_from ?a_code_of_text ?l_code_of_text ?e_code_of_text ?k_code_of_text ?a__law_feed ?l__law_feed ?e__law_feed ?k__law_feed ?a__law_draw ?l__law_draw ?e__law_draw ?k__law_draw ?a__law_is_whole ?l__law_is_whole ?e__law_is_whole ?k__law_is_whole ?a__law_some_code ?l__law_some_code ?e__law_some_code ?k__law_some_code ?a__law_code_text ?l__law_code_text ?e__law_code_text ?k__law_code_text ?a__law_told ?l__law_told ?e__law_told ?k__law_told ?a__law_due ?l__law_due ?e__law_due ?k__law_due ?a__law_bent ?l__law_bent ?e__law_bent ?k__law_bent ?a__law_long ?l__law_long ?e__law_long ?k__law_long ?a_law ?l_law ?e_law ?k_law ?a_BadText_init ?l_BadText_init ?e_BadText_init ?k_BadText_init ?xL_BadText ?sa_BadText ?tf_BadText ?kc_BadText ?eC_BadText ?tC_BadText ?no_BadText_at ?ga_BadText ?gg_BadText ?hC_BadText ?sC_BadText ?cl_BadText ?mo_BadText ?sp_ ?tk_ ?ki_BadText_BadBytes ?ki_BadText_OnceError ?z_abs ?z_bool ?z_int ?z_isinstance ?z_len ?z_list ?z_range ?z_repr ?z_str ?z_tuple ?v_MOST_JOINERS
    (case g_OnceError => k_is)
    (case g_BadText => k_is)
    (case g_BadBytes => k_is)
    (case a_is_use => k_is)
    (case l_is_use => k_is)
    (case e_is_use => k_is)
    (case k_is_use => k_is)
    (case a_count_joiners => k_is)
    (case l_count_joiners => k_is)
    (case e_count_joiners => k_is)
    (case k_count_joiners => k_is)
    (case a_text_of_code => k_is)
    (case l_text_of_code => k_is)
    (case e_text_of_code => k_is)
    (case k_text_of_code => k_is)
    (case a_taken => k_is)
    (case l_taken => k_is)
    (case e_taken => k_is)
    (case k_taken => k_is)
    (case a_code_from => k_is)
    (case l_code_from => k_is)
    (case e_code_from => k_is)
    (case k_code_from => k_is)
    (case a_code_of_text => k_is)
    (case l_code_of_text => k_is)
    (case e_code_of_text => k_is)
    (case k_code_of_text => k_is)
    (case a__law_feed => k_is)
    (case l__law_feed => k_is)
    (case e__law_feed => k_is)
    (case k__law_feed => k_is)
    (case a__law_draw => k_is)
    (case l__law_draw => k_is)
    (case e__law_draw => k_is)
    (case k__law_draw => k_is)
    (case a__law_is_whole => k_is)
    (case l__law_is_whole => k_is)
    (case e__law_is_whole => k_is)
    (case k__law_is_whole => k_is)
    (case a__law_some_code => k_is)
    (case l__law_some_code => k_is)
    (case e__law_some_code => k_is)
    (case k__law_some_code => k_is)
    (case a__law_code_text => k_is)
    (case l__law_code_text => k_is)
    (case e__law_code_text => k_is)
    (case k__law_code_text => k_is)
    (case a__law_told => k_is)
    (case l__law_told => k_is)
    (case e__law_told => k_is)
    (case k__law_told => k_is)
    (case a__law_due => k_is)
    (case l__law_due => k_is)
    (case e__law_due => k_is)
    (case k__law_due => k_is)
    (case a__law_bent => k_is)
    (case l__law_bent => k_is)
    (case e__law_bent => k_is)
    (case k__law_bent => k_is)
    (case a__law_long => k_is)
    (case l__law_long => k_is)
    (case e__law_long => k_is)
    (case k__law_long => k_is)
    (case a_law => k_is)
    (case l_law => k_is)
    (case e_law => k_is)
    (case k_law => k_is)
    (case a_BadText_init => k_is)
    (case l_BadText_init => k_is)
    (case e_BadText_init => k_is)
    (case k_BadText_init => k_is)
    (case xL_BadText => k_is)
    (case sa_BadText => k_is)
    (case tf_BadText => k_is)
    (case kc_BadText => k_is)
    (case eC_BadText => k_is)
    (case tC_BadText => k_is)
    (case no_BadText_at => k_is)
    (case ga_BadText => k_is)
    (case gg_BadText => k_is)
    (case hC_BadText => k_is)
    (case sC_BadText => k_is)
    (case cl_BadText => k_is)
    (case mo_BadText => k_is)
    (case sp_ => k_is)
    (case tk_ => k_is)
    (case ki_BadText_BadBytes => kit_is)
    (case ki_BadText_OnceError => kit_is)
    (case z_abs => k_is)
    (case z_bool => k_is)
    (case z_int => k_is)
    (case z_isinstance => k_is)
    (case z_len => k_is)
    (case z_list => k_is)
    (case z_range => k_is)
    (case z_repr => k_is)
    (case z_str => k_is)
    (case z_tuple => k_is)
    (case v_MOST_JOINERS => k_is)
#print axioms PySem.Challenge.cw_oncelinks_k52_whole_codes_as_text_holds
