import PyProof.Rows.All
import Wide.All
import OpenK.AllK
import Wide.FinOn
import HandS.ForMost
import HandS.ForExc
import HandS.Zip
import HandS.Conv
import KE.DataCmp
import KE.SortData
import HandS.TupAny
import HandS.TupMul
import HandS.Style
import HandS.Deep
import HandS.IsInst
import HandS.RaiseMore
import PyProof.ReprRoads
import PyProof.CallStr
import PyProof.TwoTypesSub
import PyProof.ReprLen
import PySem.Challenge.RW_calledpapers_k16_any_values_as_calls
set_option Elab.async false
set_option linter.all false
set_option maxRecDepth 100000
set_option maxHeartbeats 4000000
set_option autoImplicit false
namespace PD
open PySem PySem.Spec PyProof.Rows L2

/-! ### outcomes -/
structure Xc where
  cls : Str
  fs : Option (List (Str × PyData))
inductive Res (α : Type) where
  | ok (a : α)
  | exc (e : Xc)
  | bad
def Res.bind {α β : Type} (r : Res α) (f : α → Res β) : Res β :=
  match r with
  | .ok a => f a
  | .exc e => .exc e
  | .bad => .bad

/-! ### slots -/
inductive Sl where
  | un
  | d (x : PyData)
  | ol (xs : List PyData)
  | od (kvs : List (PyData × PyData))
  | sc (ns : List Int)
abbrev Sls := List Sl
abbrev Sg := L2.St

/-! ### data at a heap -/
def kD : Key → PyData
  | .inl i => .int i
  | .inr x => .str x
def dictPairs : HO → Option (List (PyData × V))
  | .dK kvs => some (kvs.map fun p => (kD p.1, p.2))
  | .dT kvs => some (kvs.map fun p => (.tuple (p.1.map kD), p.2))
  | _ => none
mutual
inductive Rp (K : PySem.W.Frag) (F : Hp) : V → PyData → Prop
  | non : Rp K F .non .none
  | bl (b : Bool) : Rp K F (.bl b) (.bool b)
  | int (i : Int) : Rp K F (.int i) (.int i)
  | str (x : Str) : Rp K F (.str x) (.str x)
  | lst {a : Addr} {vs : List V} {ds : List PyData} : F a = some (.lst vs) → RpA K F vs ds → Rp K F (.ref a) (.list ds)
  | tup {a : Addr} {vs : List V} {ds : List PyData} : SqT K F a vs → RpA K F vs ds → Rp K F (.ref a) (.tuple ds)
  | dic {a : Addr} {o : HO} {ps : List (PyData × V)} {kvs : List (PyData × PyData)} : F a = some o → dictPairs o = some ps → ps.map (·.1) = kvs.map (·.1) → RpA K F (ps.map (·.2)) (kvs.map (·.2)) → Rp K F (.ref a) (.dict kvs)
inductive RpA (K : PySem.W.Frag) (F : Hp) : List V → List PyData → Prop
  | nil : RpA K F [] []
  | cons {v : V} {vs : List V} {d : PyData} {ds : List PyData} : Rp K F v d → RpA K F vs ds → RpA K F (v :: vs) (d :: ds)
end
section
variable {K : PySem.W.Frag} {F F' H H' : Hp}
theorem Same.rd (e : Same F F') {a : Addr} {u : HO} (h : Rd F a u) : Rd F' a u := by
  rcases h with h | ⟨o, h⟩
  · exact .inl (e _ _ h)
  · exact .inr ⟨o, e _ _ h⟩
theorem Same.sqt (e : Same F F') {a : Addr} {xs : List V} (h : SqT K F a xs) : SqT K F' a xs := by
  rcases h with h | h
  · exact .inl (Same.rd e h)
  · exact .inr h
theorem Rp.mono (e : Same F F') {v : V} {d : PyData} (h : Rp K F v d) : Rp K F' v d :=
  Rp.rec (motive_1 := fun v d _ => Rp K F' v d) (motive_2 := fun vs ds _ => RpA K F' vs ds)
    .non .bl .int .str (fun h _ i => .lst (e _ _ h) i) (fun h _ i => .tup (Same.sqt e h) i) (fun h h1 h2 _ i => .dic (e _ _ h) h1 h2 i) .nil (fun _ _ i j => .cons i j) h
theorem RpA.mono (e : Same F F') : ∀ {vs : List V} {ds : List PyData}, RpA K F vs ds → RpA K F' vs ds
  | _, _, .nil => .nil
  | _, _, .cons h t => .cons (h.mono e) (RpA.mono e t)
theorem RpA.length : ∀ {vs : List V} {ds : List PyData}, RpA K F vs ds → vs.length = ds.length
  | _, _, .nil => rfl
  | _, _, .cons _ t => by rw [List.length_cons, List.length_cons, RpA.length t]
theorem RpA.get : ∀ {vs : List V} {ds : List PyData} {i : Nat} {d : PyData}, RpA K F vs ds → ds[i]? = some d → ∃ v, vs[i]? = some v ∧ Rp K F v d
  | _, _, _, _, .nil, e => by simp at e
  | _, _, 0, _, .cons r _, e => by simp at e; subst e; exact ⟨_, rfl, r⟩
  | _, _, i + 1, d, .cons _ t, e => by
    obtain ⟨v, h1, h2⟩ := RpA.get (i := i) (d := d) t (by simpa using e)
    exact ⟨v, by simpa using h1, h2⟩
theorem RpA.getV : ∀ {vs : List V} {ds : List PyData} {i : Nat} {v : V}, RpA K F vs ds → vs[i]? = some v → ∃ d, ds[i]? = some d ∧ Rp K F v d
  | _, _, _, _, .nil, e => by simp at e
  | _, _, 0, _, .cons r _, e => by simp at e; subst e; exact ⟨_, rfl, r⟩
  | _, _, i + 1, v, .cons _ t, e => by
    obtain ⟨d, h1, h2⟩ := RpA.getV (i := i) (v := v) t (by simpa using e)
    exact ⟨d, by simpa using h1, h2⟩
theorem RpA.append : ∀ {vs ws : List V} {ds es : List PyData}, RpA K F vs ds → RpA K F ws es → RpA K F (vs ++ ws) (ds ++ es)
  | _, _, _, _, .nil, s => s
  | _, _, _, _, .cons r t, s => .cons r (RpA.append t s)
theorem RpA.set {x : V} {d : PyData} (r : Rp K F x d) : ∀ {vs : List V} {ds : List PyData} (i : Nat), RpA K F vs ds → RpA K F (vs.set i x) (ds.set i d)
  | _, _, _, .nil => .nil
  | _, _, 0, .cons _ t => .cons r t
  | _, _, i + 1, .cons q t => .cons q (RpA.set r i t)
theorem RpA.take : ∀ {vs : List V} {ds : List PyData} (n : Nat), RpA K F vs ds → RpA K F (vs.take n) (ds.take n)
  | _, _, 0, _ => .nil
  | _, _, _ + 1, .nil => .nil
  | _, _, n + 1, .cons r t => .cons r (RpA.take n t)
theorem RpA.drop : ∀ {vs : List V} {ds : List PyData} (n : Nat), RpA K F vs ds → RpA K F (vs.drop n) (ds.drop n)
  | _, _, 0, r => r
  | _, _, _ + 1, .nil => .nil
  | _, _, n + 1, .cons _ t => RpA.drop n t
theorem RpA.reverse {vs : List V} {ds : List PyData} (h : RpA K F vs ds) : RpA K F vs.reverse ds.reverse := by
  induction ds generalizing vs with
  | nil => cases h; exact .nil
  | cons d ds ih =>
    cases h with
    | cons r t =>
      rw [List.reverse_cons, List.reverse_cons]
      exact (ih t).append (.cons r .nil)

/-! ### what a slot holds -/
def ow : Option V → Sl → Option Addr
  | some (.ref a), .ol _ => some a
  | some (.ref a), .od _ => some a
  | _, _ => none
def SloR (K : PySem.W.Frag) (F H : Hp) (o : Option V) : Sl → Prop
  | .un => True
  | .d x => ∃ v, o = some v ∧ Rp K F v x
  | .ol xs => ∃ a vs, o = some (.ref a) ∧ F a = none ∧ H a = some (.lst vs) ∧ RpA K F vs xs
  | .od kvs => ∃ a u ps, o = some (.ref a) ∧ F a = none ∧ H a = some u ∧ dictPairs u = some ps ∧ ps.map (·.1) = kvs.map (·.1) ∧ RpA K F (ps.map (·.2)) (kvs.map (·.2))
  | .sc ns => ∃ a, o = some (.ref a) ∧ SqL K F a (ns.map V.int)
def Own (σ : Sg) (S : Sls) (a : Addr) : Prop := ∃ (i : Nat) (o : Option V) (x : Sl), σ[i]? = some o ∧ S[i]? = some x ∧ ow o x = some a
structure StR (K : PySem.W.Frag) (F H : Hp) (σ : Sg) (S : Sls) : Prop where
  same : Same F H
  len : σ.length = S.length
  sl : ∀ (i : Nat) (o : Option V) (x : Sl), σ[i]? = some o → S[i]? = some x → SloR K F H o x
  dis : ∀ (i j : Nat) (o p : Option V) (x y : Sl) (a : Addr), σ[i]? = some o → S[i]? = some x → σ[j]? = some p → S[j]? = some y → ow o x = some a → ow p y = some a → i = j
/-- from F, H to F', H'; O: what is owned at the start -/
structure Ext (O : Addr → Prop) (F H F' H' : Hp) : Prop where
  ff : Same F F'
  fr : ∀ b o, H b = some o → ¬ O b → H' b = some o
  nn : ∀ b, H b ≠ none → H' b ≠ none
  nf : ∀ b, F' b ≠ none → F b ≠ none ∨ H b = none ∨ O b

theorem Ext.refl {O : Addr → Prop} : Ext O F H F H := ⟨Same.refl F, fun _ _ h _ => h, fun _ h => h, fun _ h => .inl h⟩
theorem Ext.trans {O O1 : Addr → Prop} {F1 H1 F2 H2 : Hp} (a : Ext O F H F1 H1) (b : Ext O1 F1 H1 F2 H2) (h : ∀ c, O1 c → O c ∨ H c = none) : Ext O F H F2 H2 where
  ff := a.ff.trans b.ff
  fr := fun c o e n => by
    have e1 := a.fr c o e n
    refine b.fr c o e1 fun z => ?_
    rcases h c z with q | q
    · exact n q
    · rw [q] at e; cases e
  nn := fun c e => b.nn c (a.nn c e)
  nf := fun c e => by
    rcases b.nf c e with q | q | q
    · exact a.nf c q
    · refine .inr (.inl ?_)
      cases r : H c with
      | none => rfl
      | some o => exact absurd q (a.nn c (by rw [r]; simp))
    · rcases h c q with z | z
      · exact .inr (.inr z)
      · exact .inr (.inl z)
theorem Ext.weak {O O1 : Addr → Prop} (a : Ext O F H F' H') (h : ∀ c, O c → O1 c) : Ext O1 F H F' H' :=
  ⟨a.ff, fun b o e n => a.fr b o e fun z => n (h b z), a.nn, fun b e => (a.nf b e).imp id (Or.imp id (h b))⟩
theorem Own.mk {σ : Sg} {S : Sls} {i : Nat} {o : Option V} {x : Sl} {a : Addr} (h1 : σ[i]? = some o) (h2 : S[i]? = some x) (h3 : ow o x = some a) : Own σ S a := ⟨i, o, x, h1, h2, h3⟩
theorem ow_cases {o : Option V} {x : Sl} {a : Addr} (h : ow o x = some a) : o = some (.ref a) ∧ ((∃ xs, x = .ol xs) ∨ ∃ kvs, x = .od kvs) := by
  unfold ow at h
  split at h
  · cases h; exact ⟨rfl, .inl ⟨_, rfl⟩⟩
  · cases h; exact ⟨rfl, .inr ⟨_, rfl⟩⟩
  · cases h
/-- an owned thing stands in H, not in F -/
theorem StR.own_none {σ : Sg} {S : Sls} (R : StR K F H σ S) {a : Addr} (h : Own σ S a) : F a = none ∧ H a ≠ none := by
  obtain ⟨i, o, x, h1, h2, h3⟩ := h
  have s := R.sl i o x h1 h2
  obtain ⟨rfl, ⟨xs, rfl⟩ | ⟨kvs, rfl⟩⟩ := ow_cases h3
  · obtain ⟨b, vs, e, e1, e2, _⟩ := s
    cases e
    exact ⟨e1, by rw [e2]; simp⟩
  · obtain ⟨b, u, ps, e, e1, e2, _⟩ := s
    cases e
    exact ⟨e1, by rw [e2]; simp⟩

/-- the heap grows, what is owned stays -/
structure Grow (F H F' H' : Hp) : Prop where
  ext : Ext (fun _ => False) F H F' H'
  same : Same F' H'
theorem Grow.refl (h : Same F H) : Grow F H F H := ⟨Ext.refl, h⟩
theorem Grow.trans {F1 H1 F2 H2 : Hp} (a : Grow F H F1 H1) (b : Grow F1 H1 F2 H2) : Grow F H F2 H2 := ⟨a.ext.trans b.ext fun _ z => z.elim, b.same⟩
theorem Grow.hh (a : Grow F H F' H') : Same H H' := fun b o e => a.ext.fr b o e fun z => z
/-- a new thing that never changes -/
theorem Grow.new {p : Addr} {o : HO} (s : Same F H) (h : H p = none) : Grow F H (upd F p o) (upd H p o) := by
  have hF : F p = none := s.free h
  refine ⟨⟨fun b u e => ?_, fun b u e _ => ?_, fun b e => ?_, fun b e => ?_⟩, fun b u e => ?_⟩
  · rw [upd_ne (ne_of_none e hF)]; exact e
  · rw [upd_ne (ne_of_none e h)]; exact e
  · unfold upd; split
    · simp
    · exact e
  · by_cases hb : b = p
    · subst hb; exact .inr (.inl h)
    · rw [upd_ne hb] at e; exact .inl e
  · by_cases hb : b = p
    · subst hb; rw [upd_same] at e ⊢; exact e
    · rw [upd_ne hb] at e ⊢; exact s b u e
/-- a new thing that may change -/
theorem Grow.own {p : Addr} {o : HO} (s : Same F H) (h : H p = none) : Grow F H F (upd H p o) := by
  refine ⟨⟨Same.refl F, fun b u e _ => ?_, fun b e => ?_, fun b e => .inl e⟩, fun b u e => ?_⟩
  · rw [upd_ne (ne_of_none e h)]; exact e
  · unfold upd; split
    · simp
    · exact e
  · rw [upd_ne (ne_of_none (s b u e) h)]; exact s b u e

theorem SloR.grow {o : Option V} {x : Sl} (h : SloR K F H o x) (g : Grow F H F' H') : SloR K F' H' o x := by
  cases x with
  | un => trivial
  | d x => obtain ⟨v, e, r⟩ := h; exact ⟨v, e, r.mono g.ext.ff⟩
  | sc ns => obtain ⟨a, e, r⟩ := h; exact ⟨a, e, g.ext.ff.seq r⟩
  | ol xs =>
    obtain ⟨a, vs, e, h1, h2, r⟩ := h
    refine ⟨a, vs, e, ?_, g.hh _ _ h2, r.mono g.ext.ff⟩
    cases q : F' a with
    | none => rfl
    | some o =>
      rcases g.ext.nf a (by rw [q]; simp) with z | z | z
      · exact absurd h1 z
      · rw [h2] at z; cases z
      · exact z.elim
  | od kvs =>
    obtain ⟨a, u, ps, e, h1, h2, h3, h4, r⟩ := h
    refine ⟨a, u, ps, e, ?_, g.hh _ _ h2, h3, h4, r.mono g.ext.ff⟩
    cases q : F' a with
    | none => rfl
    | some o =>
      rcases g.ext.nf a (by rw [q]; simp) with z | z | z
      · exact absurd h1 z
      · rw [h2] at z; cases z
      · exact z.elim
theorem StR.grow {σ : Sg} {S : Sls} (R : StR K F H σ S) (g : Grow F H F' H') : StR K F' H' σ S :=
  ⟨g.same, R.len, fun i o x h1 h2 => (R.sl i o x h1 h2).grow g, R.dis⟩

/-! ### from one state to a later one -/
structure Aft (K : PySem.W.Frag) (P : List Nat) (F H : Hp) (σ : Sg) (S : Sls) (F' H' : Hp) (σ' : Sg) (S' : Sls) : Prop where
  ext : Ext (Own σ S) F H F' H'
  str : StR K F' H' σ' S'
  own : ∀ a, Own σ' S' a → Own σ S a ∨ H a = none
  keep : ∀ i ∈ P, σ'[i]? = σ[i]?
  len : σ'.length = σ.length
variable {P : List Nat} {σ σ' σ1 σ2 : Sg} {S S' S1 S2 : Sls} {F1 H1 F2 H2 : Hp}
theorem Aft.refl (R : StR K F H σ S) : Aft K P F H σ S F H σ S := ⟨Ext.refl, R, fun _ h => .inl h, fun _ _ => rfl, rfl⟩
theorem Aft.trans (a : Aft K P F H σ S F1 H1 σ1 S1) (b : Aft K P F1 H1 σ1 S1 F2 H2 σ2 S2) : Aft K P F H σ S F2 H2 σ2 S2 where
  ext := a.ext.trans b.ext a.own
  str := b.str
  own := fun c h => by
    rcases b.own c h with q | q
    · exact a.own c q
    · refine .inr ?_
      cases r : H c with
      | none => rfl
      | some o => exact absurd q (a.ext.nn c (by rw [r]; simp))
  keep := fun i h => (b.keep i h).trans (a.keep i h)
  len := b.len.trans a.len
theorem Aft.grow (R : StR K F H σ S) (g : Grow F H F' H') : Aft K P F H σ S F' H' σ S :=
  ⟨g.ext.weak fun _ z => z.elim, R.grow g, fun _ h => .inl h, fun _ _ => rfl, rfl⟩
theorem Aft.same_pre (a : Aft K P F H σ S F' H' σ' S') : Same F F' := a.ext.ff
theorem Aft.non0 (a : Aft K P F H σ S F' H' σ' S') {c : Addr} (h : H' c = none) : H c = none := by
  cases r : H c with
  | none => rfl
  | some o => exact absurd h (a.ext.nn c (by rw [r]; simp))
theorem Aft.weakP {P' : List Nat} (a : Aft K P F H σ S F' H' σ' S') (h : ∀ i ∈ P', i ∈ P) : Aft K P' F H σ S F' H' σ' S' := ⟨a.ext, a.str, a.own, fun i hi => a.keep i (h i hi), a.len⟩
theorem Aft.anyP {P' : List Nat} (a : Aft K P F H σ S F' H' σ S') : Aft K P' F H σ S F' H' σ S' := ⟨a.ext, a.str, a.own, fun _ _ => rfl, rfl⟩
/-- what an expression gives: a value, maybe a list of its own -/
structure Val (K : PySem.W.Frag) (F H : Hp) (σ : Sg) (S : Sls) (F' H' : Hp) (σ' : Sg) (S' : Sls) (v : V) (x : Sl) : Prop where
  sl : SloR K F' H' (some v) x
  own : ∀ a, ow (some v) x = some a → ¬ Own σ' S' a ∧ (Own σ S a ∨ H a = Option.none)
theorem Val.d {v : V} {x : PyData} (r : Rp K F' v x) : Val K F H σ S F' H' σ' S' v (.d x) := ⟨⟨v, rfl, r⟩, fun a h => by
  obtain ⟨_, ⟨_, e⟩ | ⟨_, e⟩⟩ := ow_cases h <;> cases e⟩
theorem Val.rp {v : V} {x : PyData} (r : Val K F H σ S F' H' σ' S' v (.d x)) : Rp K F' v x := by
  obtain ⟨w, e, r⟩ := r.sl
  cases e; exact r
/-- later: a value that was given stays while other things run -/
theorem Val.later {v : V} {x : Sl} (r : Val K F H σ S F1 H1 σ1 S1 v x) (a : Aft K P F1 H1 σ1 S1 F2 H2 σ2 S2) : Val K F H σ S F2 H2 σ2 S2 v x := by
  have sl := r.sl
  cases x with
  | un => exact ⟨trivial, fun c h => by obtain ⟨_, ⟨_, e⟩ | ⟨_, e⟩⟩ := ow_cases h <;> cases e⟩
  | d x => exact .d (r.rp.mono a.ext.ff)
  | sc ns =>
    obtain ⟨c, e, h⟩ := sl
    exact ⟨⟨c, e, a.ext.ff.seq h⟩, fun c h => by obtain ⟨_, ⟨_, e⟩ | ⟨_, e⟩⟩ := ow_cases h <;> cases e⟩
  | ol xs =>
    obtain ⟨c, vs, e, h1, h2, h3⟩ := sl
    cases e
    have no := (r.own c rfl)
    have k2 := a.ext.fr c _ h2 no.1
    refine ⟨⟨c, vs, rfl, ?_, k2, h3.mono a.ext.ff⟩, fun b hb => ?_⟩
    · cases q : F2 c with
      | none => rfl
      | some o =>
        rcases a.ext.nf c (by rw [q]; simp) with z | z | z
        · exact absurd h1 z
        · rw [h2] at z; cases z
        · exact absurd z no.1
    · cases hb
      refine ⟨fun z => ?_, no.2⟩
      rcases a.own c z with q | q
      · exact no.1 q
      · rw [h2] at q; cases q
  | od kvs =>
    obtain ⟨c, u, ps, e, h1, h2, h3, h4, h5⟩ := sl
    cases e
    have no := (r.own c rfl)
    have k2 := a.ext.fr c _ h2 no.1
    refine ⟨⟨c, u, ps, rfl, ?_, k2, h3, h4, h5.mono a.ext.ff⟩, fun b hb => ?_⟩
    · cases q : F2 c with
      | none => rfl
      | some o =>
        rcases a.ext.nf c (by rw [q]; simp) with z | z | z
        · exact absurd h1 z
        · rw [h2] at z; cases z
        · exact absurd z no.1
    · cases hb
      refine ⟨fun z => ?_, no.2⟩
      rcases a.own c z with q | q
      · exact no.1 q
      · rw [h2] at q; cases q
/-- a value told over a later start is told over an earlier one -/
theorem Val.earlier {v : V} {x : Sl} (a : Aft K P F H σ S F1 H1 σ1 S1) (r : Val K F1 H1 σ1 S1 F2 H2 σ2 S2 v x) : Val K F H σ S F2 H2 σ2 S2 v x :=
  ⟨r.sl, fun c h => ⟨(r.own c h).1, by
    rcases (r.own c h).2 with q | q
    · exact a.own c q
    · exact .inr (a.non0 q)⟩⟩
end
end PD

namespace PD
open PySem PySem.Spec PyProof.Rows L2

theorem _root_.L2.PE.imp {X : Cx} {e : Expr} {t t' : TE} (h : PE X e t) (i : ∀ σ H Q, t' σ H Q → t σ H Q) : PE X e t' := ⟨fun pins s σ H Q I q => h.run pins s σ H Q I (i σ H Q q)⟩
theorem _root_.L2.PT.imp {X : Cx} {e : Expr} {t t' : TT} (h : PT X e t) (i : ∀ σ H Q, t' σ H Q → t σ H Q) : PT X e t' := ⟨fun pins s σ H Q I q => h.run pins s σ H Q I (i σ H Q q)⟩
theorem _root_.L2.PS.imp {X : Cx} {e : Stmt} {t t' : TS} (h : PS X e t) (i : ∀ D σ H, t' D σ H → t D σ H) : PS X e t' := ⟨fun pins s σ H D I q => h.run pins s σ H D I (i D σ H q)⟩
theorem _root_.L2.PSs.imp {X : Cx} {e : List Stmt} {t t' : TS} (h : PSs X e t) (i : ∀ D σ H, t' D σ H → t D σ H) : PSs X e t' := ⟨fun pins s σ H D I q => h.run pins s σ H D I (i D σ H q)⟩
theorem _root_.L2.PA.imp {X : Cx} {e : List Expr} {t t' : TA} (h : PA X e t) (i : ∀ σ H Q, t' σ H Q → t σ H Q) : PA X e t' := ⟨fun pos pins s σ H Q I q => h.run pos pins s σ H Q I (i σ H Q q)⟩

/-! ### changing what is known of the slots -/
section
variable {K : PySem.W.Frag} {F H F' H' : Hp} {σ : Sg} {S S' : Sls} {a : Addr} {o : HO}
theorem upd_same_of {F H : Hp} (s : Same F H) (h : H a = some o) : Same (upd F a o) H := fun b u e => by
  by_cases hb : b = a
  · subst hb; rw [upd_same] at e; cases e; exact h
  · rw [upd_ne hb] at e; exact s b u e
theorem Same.upd (h : F a = none) : Same F (upd F a o) := fun b u e => by rw [upd_ne (ne_of_none e h)]; exact e
theorem SloR.freeze {p : Option V} {x : Sl} (r : SloR K F H p x) (hF : F a = none) (n : ow p x ≠ some a) : SloR K (upd F a o) H p x := by
  cases x with
  | un => trivial
  | d x => obtain ⟨v, e, r⟩ := r; exact ⟨v, e, r.mono (Same.upd hF)⟩
  | sc ns => obtain ⟨b, e, r⟩ := r; exact ⟨b, e, (Same.upd hF).seq r⟩
  | ol xs =>
    obtain ⟨b, vs, e, h1, h2, r⟩ := r
    refine ⟨b, vs, e, ?_, h2, r.mono (Same.upd hF)⟩
    rw [upd_ne (fun z => n (by rw [e, z]; rfl))]; exact h1
  | od kvs =>
    obtain ⟨b, u, ps, e, h1, h2, h3, h4, r⟩ := r
    refine ⟨b, u, ps, e, ?_, h2, h3, h4, r.mono (Same.upd hF)⟩
    rw [upd_ne (fun z => n (by rw [e, z]; rfl))]; exact h1
theorem StR.freeze (R : StR K F H σ S) (hF : F a = none) (h : H a = some o) (n : ¬ Own σ S a) : StR K (upd F a o) H σ S :=
  ⟨upd_same_of R.same h, R.len, fun i p x h1 h2 => (R.sl i p x h1 h2).freeze hF fun z => n ⟨i, p, x, h1, h2, z⟩, R.dis⟩
theorem get_set {α : Type} {l : List α} {i j : Nat} {x y : α} (h : (l.set i y)[j]? = some x) : (i = j ∧ x = y) ∨ (i ≠ j ∧ l[j]? = some x) := by
  rw [List.getElem?_set] at h
  by_cases e : i = j
  · rw [if_pos e] at h
    split at h
    · cases h; exact .inl ⟨e, rfl⟩
    · cases h
  · rw [if_neg e] at h; exact .inr ⟨e, h⟩
/-- a slot is known otherwise, the value as it was -/
theorem StR.slot {i : Nat} {p : Option V} {y : Sl} (R : StR K F H σ S) (h1 : σ[i]? = some p) (r : SloR K F H p y) (n : ∀ b, ow p y = some b → ∀ j q x, j ≠ i → σ[j]? = some q → S[j]? = some x → ow q x ≠ some b) : StR K F H σ (S.set i y) := by
  refine ⟨R.same, by rw [List.length_set]; exact R.len, fun j q x e1 e2 => ?_, fun j k q q' x x' b e1 e2 e3 e4 o1 o2 => ?_⟩
  · rcases get_set e2 with ⟨rfl, rfl⟩ | ⟨ne, e2⟩
    · rw [h1] at e1; cases e1; exact r
    · exact R.sl j q x e1 e2
  · rcases get_set e2 with ⟨rfl, rfl⟩ | ⟨ne, e5⟩
    · rcases get_set e4 with ⟨rfl, rfl⟩ | ⟨ne', e4⟩
      · rfl
      · rw [h1] at e1; cases e1
        exact absurd o2 (n b o1 k q' x' (Ne.symm ne') e3 e4)
    · rcases get_set e4 with ⟨rfl, rfl⟩ | ⟨ne', e4⟩
      · rw [h1] at e3; cases e3
        exact absurd o1 (n b o2 j q x (Ne.symm ne) e1 e5)
      · exact R.dis j k q q' x x' b e1 e5 e3 e4 o1 o2
theorem Own.set_un {i : Nat} {y : Sl} {b : Addr} (hy : ∀ p, ow p y = none) (h : Own σ (S.set i y) b) : Own σ S b ∧ ∃ j q x, j ≠ i ∧ σ[j]? = some q ∧ S[j]? = some x ∧ ow q x = some b := by
  obtain ⟨j, q, x, e1, e2, e3⟩ := h
  rcases get_set e2 with ⟨rfl, rfl⟩ | ⟨ne, e2⟩
  · rw [hy] at e3; cases e3
  · exact ⟨⟨j, q, x, e1, e2, e3⟩, j, q, x, Ne.symm ne, e1, e2, e3⟩
theorem ow_d {p : Option V} {x : PyData} : ow p (.d x) = none := by
  cases h : ow p (.d x) with
  | none => rfl
  | some a => obtain ⟨_, ⟨_, e⟩ | ⟨_, e⟩⟩ := ow_cases h <;> cases e
theorem ow_un {p : Option V} : ow p .un = none := by
  cases h : ow p .un with
  | none => rfl
  | some a => obtain ⟨_, ⟨_, e⟩ | ⟨_, e⟩⟩ := ow_cases h <;> cases e
/-- what an owned slot holds, locked for good -/
theorem rp_of_own {p : Option V} {x : Sl} (R : StR K F H σ S) (hp : SloR K F H p x) (h : ow p x = some a) : ∃ o, H a = some o ∧ F a = none ∧ p = some (.ref a) ∧
    ∀ y, (match x with | .ol xs => y = .list xs | .od kvs => y = .dict kvs | _ => False) → Rp K (upd F a o) (.ref a) y := by
  obtain ⟨rfl, ⟨xs, rfl⟩ | ⟨kvs, rfl⟩⟩ := ow_cases h
  · obtain ⟨b, vs, e, h1, h2, r⟩ := hp
    cases e
    refine ⟨_, h2, h1, rfl, fun y e => ?_⟩
    subst e
    exact .lst upd_same (r.mono (Same.upd h1))
  · obtain ⟨b, u, ps, e, h1, h2, h3, h4, r⟩ := hp
    cases e
    refine ⟨_, h2, h1, rfl, fun y e => ?_⟩
    subst e
    exact .dic upd_same h3 h4 (r.mono (Same.upd h1))
end

/-! ### readings -/
def XdR (K : PySem.W.Frag) (F H : Hp) (d : Option Addr) : Option (List (Str × PyData)) → Prop
  | none => d = none
  | some l => ∃ dd vs, d = some dd ∧ H dd = some (.xd ((l.map (·.1)).zip vs)) ∧ RpA K F vs (l.map (·.2))
def ExR (K : PySem.W.Frag) (mg : Str → Option Value) (E : XK) (F H : Hp) (σ : Sg) (S : Sls) (e : Xc) : Prop :=
  ∀ C d F' H', mg e.cls = some (.ref C) → Ext (Own σ S) F H F' H' → Same F' H' → XdR K F' H' d e.fs → E (.ref C) d H'
theorem ExR.later {K : PySem.W.Frag} {mg : Str → Option Value} {E : XK} {P : List Nat} {F H F1 H1 : Hp} {σ σ1 : Sg} {S S1 : Sls} {e : Xc} (h : ExR K mg E F H σ S e) (a : Aft K P F H σ S F1 H1 σ1 S1) : ExR K mg E F1 H1 σ1 S1 e :=
  fun C d F' H' m x s q => h C d F' H' m (a.ext.trans x a.own) s q
section
variable (K : PySem.W.Frag) (mg : Str → Option Value) (E : XK)
def OutV (F H : Hp) (σ : Sg) (S : Sls) (Q : VK) : Res (Sl × Sls) → Prop
  | .ok (x, S') => ∀ v F' H', Aft K [] F H σ S F' H' σ S' → Val K F H σ S F' H' σ S' v x → Q v H'
  | .exc e => ExR K mg E F H σ S e
  | .bad => False
def tV (f : Sls → Res (Sl × Sls)) : TE := fun σ H Q => ∃ F S, StR K F H σ S ∧ OutV K mg E F H σ S Q (f S)
def OutE (F H : Hp) (σ : Sg) (S : Sls) (Q : VK) : Res (PyData × Sls) → Prop
  | .ok (x, S') => ∀ v F' H', Aft K [] F H σ S F' H' σ S' → Rp K F' v x → Q v H'
  | .exc e => ExR K mg E F H σ S e
  | .bad => False
def tE (f : Sls → Res (PyData × Sls)) : TE := fun σ H Q => ∃ F S, StR K F H σ S ∧ OutE K mg E F H σ S Q (f S)
def OutT (F H : Hp) (σ : Sg) (S : Sls) (Q : Bool → Hp → Prop) : Res (Bool × Sls) → Prop
  | .ok (x, S') => ∀ F' H', Aft K [] F H σ S F' H' σ S' → Q x H'
  | .exc e => ExR K mg E F H σ S e
  | .bad => False
def tT (f : Sls → Res (Bool × Sls)) : TT := fun σ H Q => ∃ F S, StR K F H σ S ∧ OutT K mg E F H σ S Q (f S)
/-- arguments as data -/
def OutA (F H : Hp) (σ : Sg) (S : Sls) (Q : List V → Hp → Prop) : Res (List PyData × Sls) → Prop
  | .ok (x, S') => ∀ vs F' H', Aft K [] F H σ S F' H' σ S' → RpA K F' vs x → Q vs H'
  | .exc e => ExR K mg E F H σ S e
  | .bad => False
def tA (f : Sls → Res (List PyData × Sls)) : TA := fun σ H Q => ∃ F S, StR K F H σ S ∧ OutA K mg E F H σ S Q (f S)
end
/-- a primitive of two data -/
def PutV (K : PySem.W.Frag) (F H : Hp) (z : Sl) (Q : VK) : Prop := ∀ v F' H', Grow F H F' H' → SloR K F' H' (some v) z → (∀ a, ow (some v) z = some a → H a = none) → Q v H'
def rD2 (K : PySem.W.Frag) (o : PyData → PyData → Res Sl) : R2 := fun x y H Q => ∃ F dx dy z, Same F H ∧ Rp K F x dx ∧ Rp K F y dy ∧ o dx dy = .ok z ∧ PutV K F H z Q
def rD1 (K : PySem.W.Frag) (o : PyData → Res Sl) : V → Hp → VK → Prop := fun x H Q => ∃ F dx z, Same F H ∧ Rp K F x dx ∧ o dx = .ok z ∧ PutV K F H z Q
def rDn (K : PySem.W.Frag) (o : List PyData → Res Sl) : List V → Hp → VK → Prop := fun xs H Q => ∃ F ds z, Same F H ∧ RpA K F xs ds ∧ o ds = .ok z ∧ PutV K F H z Q
theorem PutV.d {K : PySem.W.Frag} {F H : Hp} {z : PyData} {Q : VK} (h : PutV K F H (.d z) Q) {v : V} {F' H' : Hp} (g : Grow F H F' H') (r : Rp K F' v z) : Q v H' :=
  h v F' H' g ⟨v, rfl, r⟩ fun a e => by rw [ow_d] at e; cases e
theorem PutV.here {K : PySem.W.Frag} {F H : Hp} {z : PyData} {Q : VK} (h : PutV K F H (.d z) Q) (s : Same F H) {v : V} (r : Rp K F v z) : Q v H := h.d (Grow.refl s) r
theorem PutV.list {K : PySem.W.Frag} {F H : Hp} {zs : List PyData} {Q : VK} (h : PutV K F H (.ol zs) Q) (s : Same F H) {p : Addr} (hp : H p = none) {vs : List V} (r : RpA K F vs zs) : Q (.ref p) (upd H p (.lst vs)) :=
  h _ F _ (Grow.own s hp) ⟨p, vs, rfl, s.free hp, upd_same, r⟩ fun a e => by cases e; exact hp
theorem PutV.tup {K : PySem.W.Frag} {F H : Hp} {zs : List PyData} {Q : VK} (h : PutV K F H (.d (.tuple zs)) Q) (s : Same F H) {p : Addr} (hp : H p = none) {vs : List V} (r : RpA K F vs zs) : Q (.ref p) (upd H p (.tup vs)) :=
  h.d (Grow.new s hp) (.tup (.inl (.inl upd_same)) (r.mono (Same.upd (s.free hp))))

section
variable {K : PySem.W.Frag} {mg : Str → Option Value} {E : XK} {X : Cx} {F H : Hp} {σ : Sg} {S S' : Sls}
theorem Val.put {F' H' : Hp} {v : V} {z : Sl} (R : StR K F H σ S) (g : Grow F H F' H') (sl : SloR K F' H' (some v) z) (n : ∀ a, ow (some v) z = some a → H a = none) : Val K F H σ S F' H' σ S v z :=
  ⟨sl, fun a h => ⟨fun z => (R.own_none z).2 (n a h), .inr (n a h)⟩⟩

/-! ### lists and data -/
def dmS : Sl × Sls → Res (PyData × Sls)
  | (.d x, S) => .ok (x, S)
  | (.ol xs, S) => .ok (.list xs, S)
  | (.od kvs, S) => .ok (.dict kvs, S)
  | (.un, _) => .bad
  | (.sc _, _) => .bad
def dm (f : Sls → Res (Sl × Sls)) : Sls → Res (PyData × Sls) := fun S => (f S).bind dmS
def lf (f : Sls → Res (PyData × Sls)) : Sls → Res (Sl × Sls) := fun S => (f S).bind fun p => .ok (.d p.1, p.2)
theorem Aft.frz {F' H' : Hp} {P : List Nat} {σ' : Sg} {a : Addr} {o : HO} (A : Aft K P F H σ S F' H' σ' S') (hF : F' a = none) (h : H' a = some o) (n : ¬ Own σ' S' a) (w : Own σ S a ∨ H a = none) : Aft K P F H σ S (upd F' a o) H' σ' S' := by
  refine ⟨⟨fun b u e => ?_, A.ext.fr, A.ext.nn, fun b e => ?_⟩, A.str.freeze hF h n, A.own, A.keep, A.len⟩
  · have e2 := A.ext.ff b u e
    rw [upd_ne (ne_of_none e2 hF)]; exact e2
  · by_cases hb : b = a
    · subst hb
      rcases w with w | w
      · exact .inr (.inr w)
      · exact .inr (.inl w)
    · rw [upd_ne hb] at e; exact A.ext.nf b e
/-- a value becomes data -/
theorem Val.data {F' H' : Hp} {v : V} {x : Sl} {y : PyData} {P : List Nat} {σ' : Sg} (A : Aft K P F H σ S F' H' σ' S') (r : Val K F H σ S F' H' σ' S' v x) (e : dmS (x, S') = .ok (y, S')) :
    ∃ F2, Aft K P F H σ S F2 H' σ' S' ∧ Rp K F2 v y := by
  cases x with
  | un => cases e
  | sc ns => cases e
  | d x => cases e; exact ⟨F', A, r.rp⟩
  | ol xs =>
    cases e
    obtain ⟨a, vs, ev, h1, h2, h3⟩ := r.sl
    cases ev
    obtain ⟨n, w⟩ := r.own a rfl
    exact ⟨_, A.frz h1 h2 n w, .lst upd_same (h3.mono (Same.upd h1))⟩
  | od kvs =>
    cases e
    obtain ⟨a, u, ps, ev, h1, h2, h3, h4, h5⟩ := r.sl
    cases ev
    obtain ⟨n, w⟩ := r.own a rfl
    exact ⟨_, A.frz h1 h2 n w, .dic upd_same h3 h4 (h5.mono (Same.upd h1))⟩
theorem dmS_snd {x : Sl} {S S2 : Sls} {y : PyData} (e : dmS (x, S) = .ok (y, S2)) : S2 = S := by cases x <;> cases e <;> rfl
theorem pe_dm {e : Expr} {f : Sls → Res (Sl × Sls)} (h : PE X e (tV K mg E f)) : PE X e (tE K mg E (dm f)) := by
  refine h.imp fun σ H Q ⟨F, S, R, q⟩ => ⟨F, S, R, ?_⟩
  unfold dm at q
  cases ef : f S with
  | bad => rw [ef] at q; exact q
  | exc e => rw [ef] at q; exact q
  | ok p =>
    obtain ⟨x, S'⟩ := p
    rw [ef] at q
    intro v F' H' A r
    have q : OutE K mg E F H σ S Q (dmS (x, S')) := q
    cases ed : dmS (x, S') with
    | bad => rw [ed] at q; exact q.elim
    | exc e => cases x <;> cases ed
    | ok z =>
      obtain ⟨y, S2⟩ := z
      cases dmS_snd ed
      rw [ed] at q
      obtain ⟨F2, A2, r2⟩ := r.data A ed
      exact q v F2 H' A2 r2
theorem pe_lf {e : Expr} {f : Sls → Res (PyData × Sls)} (h : PE X e (tE K mg E f)) : PE X e (tV K mg E (lf f)) := by
  refine h.imp fun σ H Q ⟨F, S, R, q⟩ => ⟨F, S, R, ?_⟩
  unfold lf at q
  cases ef : f S with
  | bad => rw [ef] at q; exact q
  | exc e => rw [ef] at q; exact q
  | ok p => rw [ef] at q; exact fun v F' H' A r => q v F' H' A (.d r)

/-! ### names and constants -/
def eVar (i : Nat) : Sls → Res (PyData × Sls) := fun S =>
  match S[i]? with
  | some (.d x) => .ok (x, S)
  | some (.ol xs) => .ok (.list xs, S.set i (.d (.list xs)))
  | some (.od kvs) => .ok (.dict kvs, S.set i (.d (.dict kvs)))
  | _ => .bad
/-- the slot's own list goes -/
def mVar (i : Nat) : Sls → Res (Sl × Sls) := fun S =>
  match S[i]? with
  | some (.d x) => .ok (.d x, S)
  | some (.ol xs) => .ok (.ol xs, S.set i .un)
  | some (.od kvs) => .ok (.od kvs, S.set i .un)
  | some (.sc ns) => .ok (.sc ns, S)
  | _ => .bad
theorem StR.at {i : Nat} {x : Sl} (R : StR K F H σ S) (h : S[i]? = some x) : ∃ o, σ[i]? = some o ∧ SloR K F H o x := by
  have hi : i < S.length := by
    obtain ⟨h1, _⟩ := List.getElem?_eq_some_iff.mp h
    exact h1
  have hj : i < σ.length := by rw [R.len]; exact hi
  exact ⟨σ[i], List.getElem?_eq_getElem hj, R.sl i _ x (List.getElem?_eq_getElem hj) h⟩
/-- an owned slot is left: what was there is owned no more -/
theorem StR.leave {i : Nat} {x y : Sl} {p : Option V} {a : Addr} (R : StR K F H σ S) (h1 : σ[i]? = some p) (h2 : S[i]? = some x) (h3 : ow p x = some a) (hy : ∀ q, ow q y = none) (sl : SloR K F H p y) :
    StR K F H σ (S.set i y) ∧ ¬ Own σ (S.set i y) a ∧ ∀ b, Own σ (S.set i y) b → Own σ S b := by
  refine ⟨R.slot h1 sl fun b e => (by rw [hy] at e; cases e), fun z => ?_, fun b z => (Own.set_un hy z).1⟩
  obtain ⟨_, j, q, w, ne, e1, e2, e3⟩ := Own.set_un hy z
  exact ne (R.dis j i q p w x a e1 e2 h1 h2 e3 h3)
theorem pe_vE {i : Nat} {x : Str} {pos : Pos} (h : PE X (.Name x pos) (tVar i)) : PE X (.Name x pos) (tE K mg E (eVar i)) := by
  refine h.imp fun σ H Q ⟨F, S, R, q⟩ => ?_
  unfold eVar at q
  cases es : S[i]? with
  | none => rw [es] at q; exact q.elim
  | some x =>
    rw [es] at q
    obtain ⟨p, hp, sl⟩ := R.at es
    cases x with
    | un => exact q.elim
    | sc ns => exact q.elim
    | d y =>
      obtain ⟨v, rfl, r⟩ := sl
      exact ⟨v, hp, q v F H (Aft.refl R) r⟩
    | ol xs =>
      obtain ⟨a, vs, rfl, h1, h2, r⟩ := id sl
      have rp : Rp K (upd F a (.lst vs)) (.ref a) (.list xs) := .lst upd_same (r.mono (Same.upd h1))
      obtain ⟨R1, n, w⟩ := R.leave (y := .un) hp es rfl (fun _ => ow_un) trivial
      have A : Aft K [] F H σ S F H σ (S.set i .un) := ⟨Ext.refl, R1, fun b z => .inl (w b z), fun _ _ => rfl, rfl⟩
      have A2 := A.frz h1 h2 n (.inl ⟨i, _, _, hp, es, rfl⟩)
      refine ⟨_, hp, q _ (upd F a (.lst vs)) H ?_ rp⟩
      have R3 := A2.str.slot (i := i) (y := .d (.list xs)) hp ⟨_, rfl, rp⟩ fun b e => by rw [ow_d] at e; cases e
      rw [List.set_set] at R3
      exact ⟨A2.ext, R3, fun b z => .inl (Own.set_un (fun _ => ow_d) z).1, fun _ _ => rfl, rfl⟩
    | od kvs =>
      obtain ⟨a, u, ps, rfl, h1, h2, h3, h4, r⟩ := id sl
      have rp : Rp K (upd F a u) (.ref a) (.dict kvs) := .dic upd_same h3 h4 (r.mono (Same.upd h1))
      obtain ⟨R1, n, w⟩ := R.leave (y := .un) hp es rfl (fun _ => ow_un) trivial
      have A : Aft K [] F H σ S F H σ (S.set i .un) := ⟨Ext.refl, R1, fun b z => .inl (w b z), fun _ _ => rfl, rfl⟩
      have A2 := A.frz h1 h2 n (.inl ⟨i, _, _, hp, es, rfl⟩)
      refine ⟨_, hp, q _ (upd F a u) H ?_ rp⟩
      have R3 := A2.str.slot (i := i) (y := .d (.dict kvs)) hp ⟨_, rfl, rp⟩ fun b e => by rw [ow_d] at e; cases e
      rw [List.set_set] at R3
      exact ⟨A2.ext, R3, fun b z => .inl (Own.set_un (fun _ => ow_d) z).1, fun _ _ => rfl, rfl⟩
theorem pe_vM {i : Nat} {x : Str} {pos : Pos} (h : PE X (.Name x pos) (tVar i)) : PE X (.Name x pos) (tV K mg E (mVar i)) := by
  refine h.imp fun σ H Q ⟨F, S, R, q⟩ => ?_
  unfold mVar at q
  cases es : S[i]? with
  | none => rw [es] at q; exact q.elim
  | some x =>
    rw [es] at q
    obtain ⟨p, hp, sl⟩ := R.at es
    cases x with
    | un => exact q.elim
    | sc ns =>
      obtain ⟨a, rfl, r⟩ := id sl
      exact ⟨_, hp, q _ F H (Aft.refl R) ⟨sl, fun b e => by obtain ⟨_, ⟨_, e⟩ | ⟨_, e⟩⟩ := ow_cases e <;> cases e⟩⟩
    | d y =>
      obtain ⟨v, rfl, r⟩ := sl
      exact ⟨v, hp, q v F H (Aft.refl R) (.d r)⟩
    | ol xs =>
      obtain ⟨a, vs, rfl, h1, h2, r⟩ := id sl
      obtain ⟨R1, n, w⟩ := R.leave (y := .un) hp es rfl (fun _ => ow_un) trivial
      exact ⟨_, hp, q _ F H ⟨Ext.refl, R1, fun b z => .inl (w b z), fun _ _ => rfl, rfl⟩ ⟨sl, fun b e => by cases e; exact ⟨n, .inl ⟨i, _, _, hp, es, rfl⟩⟩⟩⟩
    | od kvs =>
      obtain ⟨a, u, ps, rfl, h1, h2, h3, h4, r⟩ := id sl
      obtain ⟨R1, n, w⟩ := R.leave (y := .un) hp es rfl (fun _ => ow_un) trivial
      exact ⟨_, hp, q _ F H ⟨Ext.refl, R1, fun b z => .inl (w b z), fun _ _ => rfl, rfl⟩ ⟨sl, fun b e => by cases e; exact ⟨n, .inl ⟨i, _, _, hp, es, rfl⟩⟩⟩⟩
def eC (x : PyData) : Sls → Res (PyData × Sls) := fun S => .ok (x, S)
theorem pe_cE {e : Expr} {v : V} {x : PyData} (h : PE X e (tC v)) (r : ∀ F, Rp K F v x) : PE X e (tE K mg E (eC x)) :=
  h.imp fun σ H Q ⟨F, S, R, q⟩ => q v F H (Aft.refl R) (r F)

/-! ### operators -/
def eBin (o : PyData → PyData → Res Sl) (fa fb : Sls → Res (PyData × Sls)) : Sls → Res (Sl × Sls) := fun S =>
  (fa S).bind fun p => (fb p.2).bind fun q => (o p.1 q.1).bind fun z => .ok (z, q.2)
def eUn (o : PyData → Res Sl) (fa : Sls → Res (PyData × Sls)) : Sls → Res (Sl × Sls) := fun S =>
  (fa S).bind fun p => (o p.1).bind fun z => .ok (z, p.2)
/-- the reading of two parts and a primitive -/
theorem bin_read {o : PyData → PyData → Res Sl} {fa fb : Sls → Res (PyData × Sls)} (ne : ∀ x y e, o x y ≠ .exc e) {Q : VK} (h : tV K mg E (eBin o fa fb) σ H Q) : tOp (rD2 K o) (tE K mg E fa) (tE K mg E fb) σ H Q := by
  obtain ⟨F, S, R, q⟩ := h
  refine ⟨F, S, R, ?_⟩
  unfold eBin at q
  cases ea : fa S with
  | bad => rw [ea] at q; exact q
  | exc e => rw [ea] at q; exact q
  | ok p =>
    obtain ⟨x, S1⟩ := p
    rw [ea] at q
    intro v F1 H1 A1 r1
    refine ⟨F1, S1, A1.str, ?_⟩
    have q : OutV K mg E F H σ S Q ((fb S1).bind fun q => (o x q.1).bind fun z => .ok (z, q.2)) := q
    cases eb : fb S1 with
    | bad => rw [eb] at q; exact q
    | exc e => rw [eb] at q; exact ExR.later q A1
    | ok p2 =>
      obtain ⟨y, S2⟩ := p2
      rw [eb] at q
      intro w F2 H2 A2 r2
      have q : OutV K mg E F H σ S Q ((o x y).bind fun z => .ok (z, S2)) := q
      cases eo : o x y with
      | bad => rw [eo] at q; exact q.elim
      | exc e => exact absurd eo (ne x y e)
      | ok z =>
        rw [eo] at q
        have A := A1.trans A2
        refine ⟨F2, x, y, z, A2.str.same, r1.mono A2.ext.ff, r2, eo, fun u F3 H3 g sl n => ?_⟩
        have A3 := A.trans (Aft.grow A2.str g)
        exact q u F3 H3 A3 ((Val.put A2.str g sl n).earlier A)
theorem un_read {o : PyData → Res Sl} {fa : Sls → Res (PyData × Sls)} (ne : ∀ x e, o x ≠ .exc e) {Q : VK} (h : tV K mg E (eUn o fa) σ H Q) : tE K mg E fa σ H fun x H1 => rD1 K o x H1 Q := by
  obtain ⟨F, S, R, q⟩ := h
  refine ⟨F, S, R, ?_⟩
  unfold eUn at q
  cases ea : fa S with
  | bad => rw [ea] at q; exact q
  | exc e => rw [ea] at q; exact q
  | ok p =>
    obtain ⟨x, S1⟩ := p
    rw [ea] at q
    intro v F1 H1 A1 r1
    have q : OutV K mg E F H σ S Q ((o x).bind fun z => .ok (z, S1)) := q
    cases eo : o x with
    | bad => rw [eo] at q; exact q.elim
    | exc e => exact absurd eo (ne x e)
    | ok z =>
      rw [eo] at q
      refine ⟨F1, x, z, A1.str.same, r1, eo, fun u F3 H3 g sl n => ?_⟩
      exact q u F3 H3 (A1.trans (Aft.grow A1.str g)) ((Val.put A1.str g sl n).earlier A1)
theorem pe_bin {op : Operator} {o : PyData → PyData → Res Sl} {fa fb : Sls → Res (PyData × Sls)} {a b : Expr} {pos : Pos} (ho : OpR X (binaryOp op) (rD2 K o)) (ne : ∀ x y e, o x y ≠ .exc e) (ha : PE X a (tE K mg E fa)) (hb : PE X b (tE K mg E fb)) :
    PE X (.BinOp a op b pos) (tV K mg E (eBin o fa fb)) := (pe_op ho ha hb).imp fun _ _ _ h => bin_read ne h
theorem pe_cmpD {op : CmpOp} {o : PyData → PyData → Res Sl} {fa fb : Sls → Res (PyData × Sls)} {a b : Expr} {pos : Pos} (ho : OpR X (compareOp op) (rD2 K o)) (ne : ∀ x y e, o x y ≠ .exc e) (hm : behindInMarks op b = false) (ha : PE X a (tE K mg E fa)) (hb : PE X b (tE K mg E fb)) :
    PE X (.Compare a [op] [b] pos) (tV K mg E (eBin o fa fb)) := (pe_cmpR ho ha hb hm).imp fun _ _ _ h => bin_read ne h
theorem pe_unD {op : UnaryOp} {o : PyData → Res Sl} {fa : Sls → Res (PyData × Sls)} {a : Expr} {pos : Pos} (ho : UnR X (unaryOp op) (rD1 K o)) (ne : ∀ x e, o x ≠ .exc e) (ha : PE X a (tE K mg E fa)) :
    PE X (.UnaryOp op a pos) (tV K mg E (eUn o fa)) := (pe_un ho ha).imp fun _ _ _ h => un_read ne h
end
end PD

namespace PD
open PySem PySem.Spec PyProof.Rows L2
section
variable {K : PySem.W.Frag} {mg : Str → Option Value} {E : XK} {X : Cx} {F H : Hp} {σ : Sg} {S S' : Sls}

/-! ### argument lists -/
def aNil : Sls → Res (List PyData × Sls) := fun S => .ok ([], S)
def aCons (fa : Sls → Res (PyData × Sls)) (fr : Sls → Res (List PyData × Sls)) : Sls → Res (List PyData × Sls) := fun S =>
  (fa S).bind fun p => (fr p.2).bind fun q => .ok (p.1 :: q.1, q.2)
structure PAn (K : PySem.W.Frag) (mg : Str → Option Value) (E : XK) (X : Cx) (es : List Expr) (f : Sls → Res (List PyData × Sls)) (n : Nat) : Prop where
  pa : PA X es (tA K mg E f)
  len : ∀ S p, f S = .ok p → p.1.length = n
theorem an_nil : PAn K mg E X [] aNil 0 := by
  refine ⟨pa_nil.imp fun σ H Q ⟨F, S, R, q⟩ => q [] F H (Aft.refl R) .nil, fun S p h => ?_⟩
  cases h; rfl
theorem an_cons {e : Expr} {es : List Expr} {fa : Sls → Res (PyData × Sls)} {fr : Sls → Res (List PyData × Sls)} {n : Nat} (ha : PE X e (tE K mg E fa)) (hr : PAn K mg E X es fr n)
    (hs : starEach (e :: es) X.env = (false, eval e X.env) :: starEach es X.env := by rfl) : PAn K mg E X (e :: es) (aCons fa fr) (n + 1) := by
  refine ⟨(pa_cons ha hr.pa hs).imp fun σ H Q ⟨F, S, R, q⟩ => ⟨F, S, R, ?_⟩, fun S p h => ?_⟩
  · unfold aCons at q
    cases ea : fa S with
    | bad => rw [ea] at q; exact q
    | exc e => rw [ea] at q; exact q
    | ok p =>
      obtain ⟨x, S1⟩ := p
      rw [ea] at q
      intro v F1 H1 A1 r1
      refine ⟨F1, S1, A1.str, ?_⟩
      have q : OutA K mg E F H σ S Q ((fr S1).bind fun q => .ok (x :: q.1, q.2)) := q
      cases eb : fr S1 with
      | bad => rw [eb] at q; exact q
      | exc e => rw [eb] at q; exact ExR.later q A1
      | ok p2 =>
        obtain ⟨y, S2⟩ := p2
        rw [eb] at q
        intro ws F2 H2 A2 r2
        exact q (v :: ws) F2 H2 (A1.trans A2) (.cons (r1.mono A2.ext.ff) r2)
  · unfold aCons at h
    cases ea : fa S with
    | bad => rw [ea] at h; cases h
    | exc e => rw [ea] at h; cases h
    | ok p1 =>
      rw [ea] at h
      have h : ((fr p1.2).bind fun q => .ok (p1.1 :: q.1, q.2)) = Res.ok p := h
      cases eb : fr p1.2 with
      | bad => rw [eb] at h; cases h
      | exc e => rw [eb] at h; cases h
      | ok p2 =>
        rw [eb] at h
        cases h
        show (p1.1 :: p2.1).length = n + 1
        rw [List.length_cons, hr.len _ _ eb]

/-! ### displays -/
def eTup (fr : Sls → Res (List PyData × Sls)) : Sls → Res (PyData × Sls) := fun S => (fr S).bind fun p => .ok (.tuple p.1, p.2)
def eLst (fr : Sls → Res (List PyData × Sls)) : Sls → Res (Sl × Sls) := fun S => (fr S).bind fun p => .ok (.ol p.1, p.2)
theorem small_line {n : Nat} (h : n ≤ 1000) : n ≤ sizeLine := Nat.le_of_lt (small1000 h)
theorem pe_tupD {es : List Expr} {fr : Sls → Res (List PyData × Sls)} {n x1 : Nat} {pos : Pos} (h : PAn K mg E X es fr n) (hn : n ≤ 1000 := by decide) : PE X (.Tuple es x1 pos) (tE K mg E (eTup fr)) := by
  refine (pe_tup h.pa).imp fun σ H Q ⟨F, S, R, q⟩ => ⟨F, S, R, ?_⟩
  unfold eTup at q
  cases ea : fr S with
  | bad => rw [ea] at q; exact q
  | exc e => rw [ea] at q; exact q
  | ok p =>
    obtain ⟨xs, S1⟩ := p
    rw [ea] at q
    intro vs F1 H1 A1 r1
    refine ⟨by rw [r1.length, show xs.length = n from h.len _ _ ea]; exact small_line hn, fun p hp => ?_⟩
    refine q (.ref p) _ _ (A1.trans (Aft.grow A1.str (Grow.new A1.str.same hp))) ?_
    exact .tup (.inl (.inl upd_same)) (r1.mono (Same.upd (A1.str.same.free hp)))
theorem pe_lstD {es : List Expr} {fr : Sls → Res (List PyData × Sls)} {n : Nat} {pos : Pos} (h : PAn K mg E X es fr n) (hn : n ≤ 1000 := by decide) : PE X (.List es pos) (tV K mg E (eLst fr)) := by
  refine (pe_lst h.pa).imp fun σ H Q ⟨F, S, R, q⟩ => ⟨F, S, R, ?_⟩
  unfold eLst at q
  cases ea : fr S with
  | bad => rw [ea] at q; exact q
  | exc e => rw [ea] at q; exact q
  | ok p =>
    obtain ⟨xs, S1⟩ := p
    rw [ea] at q
    intro vs F1 H1 A1 r1
    refine ⟨by rw [r1.length, show xs.length = n from h.len _ _ ea]; exact small_line hn, fun p hp => ?_⟩
    have g := Grow.own (o := .lst vs) A1.str.same hp
    refine q (.ref p) _ _ (A1.trans (Aft.grow A1.str g)) ((Val.put (z := .ol xs) A1.str g ⟨p, vs, rfl, A1.str.same.free hp, upd_same, r1⟩ fun a e => by cases e; exact hp).earlier A1)

/-! ### a built-in called by its name -/
def eCall (o : List PyData → Res Sl) (fr : Sls → Res (List PyData × Sls)) : Sls → Res (Sl × Sls) := fun S =>
  (fr S).bind fun p => (o p.1).bind fun z => .ok (z, p.2)
theorem call_read {o : List PyData → Res Sl} {fr : Sls → Res (List PyData × Sls)} (ne : ∀ x e, o x ≠ .exc e) {Q : VK} (h : tV K mg E (eCall o fr) σ H Q) : tA K mg E fr σ H fun vs H1 => rDn K o vs H1 Q := by
  obtain ⟨F, S, R, q⟩ := h
  refine ⟨F, S, R, ?_⟩
  unfold eCall at q
  cases ea : fr S with
  | bad => rw [ea] at q; exact q
  | exc e => rw [ea] at q; exact q
  | ok p =>
    obtain ⟨x, S1⟩ := p
    rw [ea] at q
    intro v F1 H1 A1 r1
    have q : OutV K mg E F H σ S Q ((o x).bind fun z => .ok (z, S1)) := q
    cases eo : o x with
    | bad => rw [eo] at q; exact q.elim
    | exc e => exact absurd eo (ne x e)
    | ok z =>
      rw [eo] at q
      refine ⟨F1, x, z, A1.str.same, r1, eo, fun u F3 H3 g sl n => ?_⟩
      exact q u F3 H3 (A1.trans (Aft.grow A1.str g)) ((Val.put A1.str g sl n).earlier A1)
theorem pe_blt {id : String} {x : Str} {p pos : Pos} {e : Expr} {es : List Expr} {o : List PyData → Res Sl} {fr : Sls → Res (List PyData × Sls)} {n : Nat} (hc : CallR X (.builtin id) (rDn K o)) (ne : ∀ x e, o x ≠ .exc e) (hg : Gl X x) (hm : X.mg x = none) (hv : bootBuiltins x = some (.builtin id))
    (ha : PAn K mg E X (e :: es) fr n) (hn : x ≠ "__name__" := by decide) (hdb : (x == ("__debug__" : Str)) = false := by decide) (he : starEach (e :: es) X.env = (false, eval e X.env) :: starEach es X.env := by rfl) (hpl : (backTo pos (starEach es X.env)).any (·.1) = false := by rfl) :
    PE X (.Call (.Name x p) (e :: es) [] pos) (tV K mg E (eCall o fr)) := (pe_callB hc hg hm hv ha.pa hn hdb he hpl).imp fun _ _ _ h => call_read ne h
theorem pe_bltTy {T : String} {x : Str} {p pos : Pos} {e : Expr} {es : List Expr} {o : List PyData → Res Sl} {fr : Sls → Res (List PyData × Sls)} {n : Nat} (hc : CallR X (.type T) (rDn K o)) (ne : ∀ x e, o x ≠ .exc e) (hg : Gl X x) (hm : X.mg x = none) (hv : bootBuiltins x = some (.type T))
    (ha : PAn K mg E X (e :: es) fr n) (hn : x ≠ "__name__" := by decide) (hdb : (x == ("__debug__" : Str)) = false := by decide) (he : starEach (e :: es) X.env = (false, eval e X.env) :: starEach es X.env := by rfl) (hpl : (backTo pos (starEach es X.env)).any (·.1) = false := by rfl) :
    PE X (.Call (.Name x p) (e :: es) [] pos) (tV K mg E (eCall o fr)) := (pe_callTy hc hg hm hv ha.pa hn hdb he hpl).imp fun _ _ _ h => call_read ne h

/-! ### subscripts and slices -/
theorem pe_ixD {o : PyData → PyData → Res Sl} {fa fb : Sls → Res (PyData × Sls)} {a b : Expr} {pos : Pos} (ho : IxR X (rD2 K o)) (ne : ∀ x y e, o x y ≠ .exc e) (ha : PE X a (tE K mg E fa)) (hb : PE X b (tE K mg E fb)) (hs : PlainIx b) :
    PE X (.Subscript a b pos) (tV K mg E (eBin o fa fb)) := (pe_ix ho ha hb hs).imp fun _ _ _ h => bin_read ne h
/-- a part of a slice -/
def OutO (K : PySem.W.Frag) (mg : Str → Option Value) (E : XK) (F H : Hp) (σ : Sg) (S : Sls) (Q : Option Int → Hp → Prop) : Res (Option Int × Sls) → Prop
  | .ok (x, S') => ∀ F' H', Aft K [] F H σ S F' H' σ S' → Q x H'
  | .exc e => ExR K mg E F H σ S e
  | .bad => False
def tO (K : PySem.W.Frag) (mg : Str → Option Value) (E : XK) (f : Sls → Res (Option Int × Sls)) : TO := fun σ H Q => ∃ F S, StR K F H σ S ∧ OutO K mg E F H σ S Q (f S)
def pNo : Sls → Res (Option Int × Sls) := fun S => .ok (none, S)
def asInt : PyData → Res Int
  | .int i => .ok i
  | _ => .bad
def pInt (f : Sls → Res (PyData × Sls)) : Sls → Res (Option Int × Sls) := fun S => (f S).bind fun p => (asInt p.1).bind fun i => .ok (some i, p.2)
theorem _root_.L2.PO.imp {e : Option Expr} {t t' : TO} (h : PO X e t) (i : ∀ σ H Q, t' σ H Q → t σ H Q) : PO X e t' := ⟨fun pins s σ H Q I q => h.run pins s σ H Q I (i σ H Q q)⟩
theorem po_no : PO X none (tO K mg E pNo) := po_none.imp fun σ H Q ⟨F, S, R, q⟩ => q F H (Aft.refl R)
theorem po_int {e : Expr} {f : Sls → Res (PyData × Sls)} (h : PE X e (tE K mg E f)) : PO X (some e) (tO K mg E (pInt f)) := by
  refine (po_some h).imp fun σ H Q ⟨F, S, R, q⟩ => ⟨F, S, R, ?_⟩
  unfold pInt at q
  cases ea : f S with
  | bad => rw [ea] at q; exact q
  | exc e => rw [ea] at q; exact q
  | ok p =>
    obtain ⟨x, S1⟩ := p
    rw [ea] at q
    intro v F1 H1 A1 r1
    cases x with
    | int i => cases r1; exact ⟨i, rfl, q F1 H1 A1⟩
    | _ => exact q.elim
def rSlD (K : PySem.W.Frag) (o : PyData → Option Int → Option Int → Res Sl) : V → Option Int → Option Int → Hp → VK → Prop := fun x lo hi H Q => ∃ F dx z, Same F H ∧ Rp K F x dx ∧ o dx lo hi = .ok z ∧ PutV K F H z Q
def eSl (o : PyData → Option Int → Option Int → Res Sl) (fa : Sls → Res (PyData × Sls)) (fl fh : Sls → Res (Option Int × Sls)) : Sls → Res (Sl × Sls) := fun S =>
  (fa S).bind fun p => (fl p.2).bind fun l => (fh l.2).bind fun h => (o p.1 l.1 h.1).bind fun z => .ok (z, h.2)
theorem pe_slD {o : PyData → Option Int → Option Int → Res Sl} {fa : Sls → Res (PyData × Sls)} {fl fh : Sls → Res (Option Int × Sls)} {a : Expr} {lo hi : Option Expr} {p2 pos : Pos} (ho : SlR X (rSlD K o)) (ne : ∀ x l h e, o x l h ≠ .exc e) (ha : PE X a (tE K mg E fa)) (hl : PO X lo (tO K mg E fl)) (hh : PO X hi (tO K mg E fh)) :
    PE X (.Subscript a (.Slice lo hi none p2) pos) (tV K mg E (eSl o fa fl fh)) := by
  refine (pe_slice ho ha hl hh).imp fun σ H Q ⟨F, S, R, q⟩ => ⟨F, S, R, ?_⟩
  unfold eSl at q
  cases ea : fa S with
  | bad => rw [ea] at q; exact q
  | exc e => rw [ea] at q; exact q
  | ok p =>
    obtain ⟨x, S1⟩ := p
    rw [ea] at q
    intro v F1 H1 A1 r1
    refine ⟨F1, S1, A1.str, ?_⟩
    have q : OutV K mg E F H σ S Q ((fl S1).bind fun l => (fh l.2).bind fun h => (o x l.1 h.1).bind fun z => .ok (z, h.2)) := q
    cases eb : fl S1 with
    | bad => rw [eb] at q; exact q
    | exc e => rw [eb] at q; exact ExR.later q A1
    | ok p2 =>
      obtain ⟨l, S2⟩ := p2
      rw [eb] at q
      intro F2 H2 A2
      refine ⟨F2, S2, A2.str, ?_⟩
      have q : OutV K mg E F H σ S Q ((fh S2).bind fun h => (o x l h.1).bind fun z => .ok (z, h.2)) := q
      cases ec : fh S2 with
      | bad => rw [ec] at q; exact q
      | exc e => rw [ec] at q; exact ExR.later q (A1.trans A2)
      | ok p3 =>
        obtain ⟨h, S3⟩ := p3
        rw [ec] at q
        intro F3 H3 A3
        have q : OutV K mg E F H σ S Q ((o x l h).bind fun z => .ok (z, S3)) := q
        cases eo : o x l h with
        | bad => rw [eo] at q; exact q.elim
        | exc e => exact absurd eo (ne _ _ _ e)
        | ok z =>
          rw [eo] at q
          have A := (A1.trans A2).trans A3
          refine ⟨F3, x, z, A3.str.same, (r1.mono A2.ext.ff).mono A3.ext.ff, eo, fun u F4 H4 g sl n => ?_⟩
          exact q u F4 H4 (A.trans (Aft.grow A3.str g)) ((Val.put A3.str g sl n).earlier A)
end
end PD

namespace PD
open PySem PySem.Spec PyProof.Rows L2
section
variable {K : PySem.W.Frag} {mg : Str → Option Value} {E : XK} {X : Cx} {F H : Hp} {σ : Sg} {S S' : Sls}

/-! ### tests, and, or, not, if .. else -/
def asBool : PyData → Res Bool
  | .bool b => .ok b
  | _ => .bad
def ofE (f : Sls → Res (PyData × Sls)) : Sls → Res (Bool × Sls) := fun S => (f S).bind fun p => (asBool p.1).bind fun b => .ok (b, p.2)
theorem ofE_read {f : Sls → Res (PyData × Sls)} {Q : Bool → Hp → Prop} (h : tT K mg E (ofE f) σ H Q) : tE K mg E f σ H fun x H1 => ∃ c, x = .bl c ∧ Q c H1 := by
  obtain ⟨F, S, R, q⟩ := h
  refine ⟨F, S, R, ?_⟩
  unfold ofE at q
  cases ea : f S with
  | bad => rw [ea] at q; exact q
  | exc e => rw [ea] at q; exact q
  | ok p =>
    obtain ⟨x, S1⟩ := p
    rw [ea] at q
    intro v F1 H1 A1 r1
    cases x with
    | bool b => cases r1; exact ⟨b, rfl, q F1 H1 A1⟩
    | _ => exact q.elim
theorem pt_E {e : Expr} {f : Sls → Res (PyData × Sls)} (h : PE X e (tE K mg E f)) (he : ∀ whole, isTrue e X.env whole = (do let v ← whole; standAt e.pos; holding [v] (truthy v)) := by intro _; rfl) : PT X e (tT K mg E (ofE f)) :=
  (pt_val h he).imp fun _ _ _ q => ofE_read q
theorem pt_cmpD {op : CmpOp} {o : PyData → PyData → Res Sl} {fa fb : Sls → Res (PyData × Sls)} {a b : Expr} {pos : Pos} (ho : OpR X (compareOp op) (rD2 K o)) (ne : ∀ x y e, o x y ≠ .exc e) (hm : behindInMarks op b = false) (ha : PE X a (tE K mg E fa)) (hb : PE X b (tE K mg E fb)) :
    PT X (.Compare a [op] [b] pos) (tT K mg E (ofE (dm (eBin o fa fb)))) := by
  refine (pt_cmpR ho ha hb hm).imp fun σ H Q h => ?_
  have h2 := ofE_read h
  refine bin_read (mg := mg) (E := E) ne ?_
  obtain ⟨F, S, R, q⟩ := h2
  refine ⟨F, S, R, ?_⟩
  unfold dm at q
  cases ef : eBin o fa fb S with
  | bad => rw [ef] at q; exact q
  | exc e => rw [ef] at q; exact q
  | ok p =>
    obtain ⟨x, S'⟩ := p
    rw [ef] at q
    intro v F' H' A r
    have q : OutE K mg E F H σ S (fun x H1 => ∃ c, x = V.bl c ∧ Q c H1) (dmS (x, S')) := q
    cases ed : dmS (x, S') with
    | bad => rw [ed] at q; exact q.elim
    | exc e => cases x <;> cases ed
    | ok z =>
      obtain ⟨y, S2⟩ := z
      cases dmS_snd ed
      rw [ed] at q
      obtain ⟨F2, A2, r2⟩ := r.data A ed
      exact q v F2 H' A2 r2
def tNo (f : Sls → Res (Bool × Sls)) : Sls → Res (Bool × Sls) := fun S => (f S).bind fun p => .ok (!p.1, p.2)
theorem pt_noD {a : Expr} {f : Sls → Res (Bool × Sls)} {pos : Pos} (h : PT X a (tT K mg E f)) : PT X (.UnaryOp .Not a pos) (tT K mg E (tNo f)) := by
  refine (pt_not h).imp fun σ H Q ⟨F, S, R, q⟩ => ⟨F, S, R, ?_⟩
  unfold tNo at q
  cases ea : f S with
  | bad => rw [ea] at q; exact q
  | exc e => rw [ea] at q; exact q
  | ok p => rw [ea] at q; exact q
def tAn (fa fb : Sls → Res (Bool × Sls)) : Sls → Res (Bool × Sls) := fun S => (fa S).bind fun p => if p.1 = true then fb p.2 else .ok (false, p.2)
def tOrr (fa fb : Sls → Res (Bool × Sls)) : Sls → Res (Bool × Sls) := fun S => (fa S).bind fun p => if p.1 = true then .ok (true, p.2) else fb p.2
theorem OutT.later {P : List Nat} {F1 H1 : Hp} {S1 : Sls} {Q : Bool → Hp → Prop} {r : Res (Bool × Sls)} (A : Aft K [] F H σ S F1 H1 σ S1) (q : OutT K mg E F H σ S Q r) : OutT K mg E F1 H1 σ S1 Q r := by
  cases r with
  | bad => exact q
  | exc e => exact ExR.later q A
  | ok p => exact fun F2 H2 A2 => q F2 H2 (A.trans A2)
theorem OutE.later {F1 H1 : Hp} {S1 : Sls} {Q : VK} {r : Res (PyData × Sls)} (A : Aft K [] F H σ S F1 H1 σ S1) (q : OutE K mg E F H σ S Q r) : OutE K mg E F1 H1 σ S1 Q r := by
  cases r with
  | bad => exact q
  | exc e => exact ExR.later q A
  | ok p => exact fun v F2 H2 A2 rv => q v F2 H2 (A.trans A2) rv
theorem OutV.later {F1 H1 : Hp} {S1 : Sls} {Q : VK} {r : Res (Sl × Sls)} (A : Aft K [] F H σ S F1 H1 σ S1) (q : OutV K mg E F H σ S Q r) : OutV K mg E F1 H1 σ S1 Q r := by
  cases r with
  | bad => exact q
  | exc e => exact ExR.later q A
  | ok p => exact fun v F2 H2 A2 rv => q v F2 H2 (A.trans A2) (rv.earlier A)
theorem pw_one {op} {a : Expr} {f : Sls → Res (Bool × Sls)} {pos : Pos} (h : PT X a (tT K mg E f)) (hop : op = .And ∨ op = .Or) : PW X (.BoolOp op [a] pos) (tT K mg E f) := by
  rcases hop with rfl | rfl
  · exact pw_and1 h
  · exact pw_or1 h
theorem _root_.L2.PW.imp {e : Expr} {t t' : TT} (h : PW X e t) (i : ∀ σ H Q, t' σ H Q → t σ H Q) : PW X e t' := ⟨fun w pins s σ H Q I q => h.run w pins s σ H Q I (i σ H Q q)⟩
theorem pw_anD {a b : Expr} {rest : List Expr} {fa fb : Sls → Res (Bool × Sls)} {pos : Pos} (ha : PT X a (tT K mg E fa)) (hb : PW X (.BoolOp .And (b :: rest) pos) (tT K mg E fb)) : PW X (.BoolOp .And (a :: b :: rest) pos) (tT K mg E (tAn fa fb)) := by
  refine (pw_and ha hb).imp fun σ H Q ⟨F, S, R, q⟩ => ⟨F, S, R, ?_⟩
  unfold tAn at q
  cases ea : fa S with
  | bad => rw [ea] at q; exact q
  | exc e => rw [ea] at q; exact q
  | ok p =>
    obtain ⟨c, S1⟩ := p
    rw [ea] at q
    intro F1 H1 A1
    cases c with
    | true => rw [if_pos rfl]; exact ⟨F1, S1, A1.str, OutT.later (P := []) A1 q⟩
    | false => rw [if_neg Bool.false_ne_true]; exact q F1 H1 A1
theorem pw_orD {a b : Expr} {rest : List Expr} {fa fb : Sls → Res (Bool × Sls)} {pos : Pos} (ha : PT X a (tT K mg E fa)) (hb : PW X (.BoolOp .Or (b :: rest) pos) (tT K mg E fb)) : PW X (.BoolOp .Or (a :: b :: rest) pos) (tT K mg E (tOrr fa fb)) := by
  refine (pw_or ha hb).imp fun σ H Q ⟨F, S, R, q⟩ => ⟨F, S, R, ?_⟩
  unfold tOrr at q
  cases ea : fa S with
  | bad => rw [ea] at q; exact q
  | exc e => rw [ea] at q; exact q
  | ok p =>
    obtain ⟨c, S1⟩ := p
    rw [ea] at q
    intro F1 H1 A1
    cases c with
    | true => rw [if_pos rfl]; exact q F1 H1 A1
    | false => rw [if_neg Bool.false_ne_true]; exact ⟨F1, S1, A1.str, OutT.later (P := []) A1 q⟩
/-- as values -/
def eAn (fa fb : Sls → Res (PyData × Sls)) : Sls → Res (PyData × Sls) := fun S => (fa S).bind fun p => (asBool p.1).bind fun b => if b = true then fb p.2 else .ok (.bool false, p.2)
def eOrr (fa fb : Sls → Res (PyData × Sls)) : Sls → Res (PyData × Sls) := fun S => (fa S).bind fun p => (asBool p.1).bind fun b => if b = true then .ok (.bool true, p.2) else fb p.2
theorem pe_anD {a b : Expr} {rest : List Expr} {fa fb : Sls → Res (PyData × Sls)} {pos : Pos} (ha : PE X a (tE K mg E fa)) (hb : PE X (.BoolOp .And (b :: rest) pos) (tE K mg E fb)) : PE X (.BoolOp .And (a :: b :: rest) pos) (tE K mg E (eAn fa fb)) := by
  refine (pe_and ha hb).imp fun σ H Q ⟨F, S, R, q⟩ => ⟨F, S, R, ?_⟩
  unfold eAn at q
  cases ea : fa S with
  | bad => rw [ea] at q; exact q
  | exc e => rw [ea] at q; exact q
  | ok p =>
    obtain ⟨x, S1⟩ := p
    rw [ea] at q
    intro v F1 H1 A1 r1
    cases x with
    | bool b =>
      cases r1
      refine ⟨b, rfl, ?_⟩
      cases b with
      | true => rw [if_pos rfl]; exact ⟨F1, S1, A1.str, OutE.later A1 q⟩
      | false => rw [if_neg Bool.false_ne_true]; exact q _ F1 H1 A1 (.bl _)
    | _ => exact q.elim
theorem pe_orD {a b : Expr} {rest : List Expr} {fa fb : Sls → Res (PyData × Sls)} {pos : Pos} (ha : PE X a (tE K mg E fa)) (hb : PE X (.BoolOp .Or (b :: rest) pos) (tE K mg E fb)) : PE X (.BoolOp .Or (a :: b :: rest) pos) (tE K mg E (eOrr fa fb)) := by
  refine (pe_or ha hb).imp fun σ H Q ⟨F, S, R, q⟩ => ⟨F, S, R, ?_⟩
  unfold eOrr at q
  cases ea : fa S with
  | bad => rw [ea] at q; exact q
  | exc e => rw [ea] at q; exact q
  | ok p =>
    obtain ⟨x, S1⟩ := p
    rw [ea] at q
    intro v F1 H1 A1 r1
    cases x with
    | bool b =>
      cases r1
      refine ⟨b, rfl, ?_⟩
      cases b with
      | false => rw [if_neg Bool.false_ne_true]; exact ⟨F1, S1, A1.str, OutE.later A1 q⟩
      | true => rw [if_pos rfl]; exact q _ F1 H1 A1 (.bl _)
    | _ => exact q.elim
def eNo (f : Sls → Res (PyData × Sls)) : Sls → Res (PyData × Sls) := fun S => (f S).bind fun p => (asBool p.1).bind fun b => .ok (.bool (!b), p.2)
theorem pe_noD {a : Expr} {f : Sls → Res (PyData × Sls)} {pos : Pos} (h : PE X a (tE K mg E f)) : PE X (.UnaryOp .Not a pos) (tE K mg E (eNo f)) := by
  refine (pe_not h).imp fun σ H Q ⟨F, S, R, q⟩ => ⟨F, S, R, ?_⟩
  unfold eNo at q
  cases ea : f S with
  | bad => rw [ea] at q; exact q
  | exc e => rw [ea] at q; exact q
  | ok p =>
    obtain ⟨x, S1⟩ := p
    rw [ea] at q
    intro v F1 H1 A1 r1
    cases x with
    | bool b => cases r1; exact ⟨b, rfl, q _ F1 H1 A1 (.bl _)⟩
    | _ => exact q.elim
def eIf (ft : Sls → Res (Bool × Sls)) (fa fb : Sls → Res (Sl × Sls)) : Sls → Res (Sl × Sls) := fun S => (ft S).bind fun p => if p.1 = true then fa p.2 else fb p.2
theorem pe_ifD {c a b : Expr} {ft : Sls → Res (Bool × Sls)} {fa fb : Sls → Res (Sl × Sls)} {pos : Pos} (hc : PT X c (tT K mg E ft)) (ha : PE X a (tV K mg E fa)) (hb : PE X b (tV K mg E fb)) : PE X (.IfExp c a b pos) (tV K mg E (eIf ft fa fb)) := by
  refine (pe_ifExp hc ha hb).imp fun σ H Q ⟨F, S, R, q⟩ => ⟨F, S, R, ?_⟩
  unfold eIf at q
  cases ea : ft S with
  | bad => rw [ea] at q; exact q
  | exc e => rw [ea] at q; exact q
  | ok p =>
    obtain ⟨c, S1⟩ := p
    rw [ea] at q
    intro F1 H1 A1
    cases c with
    | true => rw [if_pos rfl]; exact ⟨F1, S1, A1.str, OutV.later A1 q⟩
    | false => rw [if_neg Bool.false_ne_true]; exact ⟨F1, S1, A1.str, OutV.later A1 q⟩
/-- a < b < c -/
def eChain (o o' : PyData → PyData → Res Sl) (fa fb fc : Sls → Res (PyData × Sls)) : Sls → Res (PyData × Sls) := fun S =>
  (fa S).bind fun p => (fb p.2).bind fun q => (o p.1 q.1).bind fun z => (dmS (z, q.2)).bind fun z => (asBool z.1).bind fun b => if b = true then (fc z.2).bind fun r => (o' q.1 r.1).bind fun w => dmS (w, r.2) else .ok (.bool false, z.2)

/-! ### statements -/
end
inductive Fl where
  | next
  | ret (x : Sl)
  | brk
  | cont
section
variable (K : PySem.W.Frag) (mg : Str → Option Value) (E : XK) (P : List Nat)
def OutS (F H : Hp) (σ : Sg) (S : Sls) (D : Ends) : Res (Fl × Sls) → Prop
  | .ok (.next, S') => ∀ σ' F' H', Aft K P F H σ S F' H' σ' S' → D.nx σ' H'
  | .ok (.brk, S') => ∀ σ' F' H', Aft K P F H σ S F' H' σ' S' → D.bk σ' H'
  | .ok (.cont, S') => ∀ σ' F' H', Aft K P F H σ S F' H' σ' S' → D.ct σ' H'
  | .ok (.ret x, S') => ∀ v σ' F' H', Aft K P F H σ S F' H' σ' S' → Val K F H σ S F' H' σ' S' v x → D.rt v H'
  | .exc e => ExR K mg E F H σ S e
  | .bad => False
def tS (g : Sls → Res (Fl × Sls)) : TS := fun D σ H => ∃ F S, StR K F H σ S ∧ OutS K mg E P F H σ S D (g S)
end
section
variable {K : PySem.W.Frag} {mg : Str → Option Value} {E : XK} {P : List Nat} {X : Cx} {F H : Hp} {σ : Sg} {S S' : Sls}
theorem OutS.later {F1 H1 : Hp} {σ1 : Sg} {S1 : Sls} {D : Ends} {r : Res (Fl × Sls)} (A : Aft K P F H σ S F1 H1 σ1 S1) (q : OutS K mg E P F H σ S D r) : OutS K mg E P F1 H1 σ1 S1 D r := by
  cases r with
  | bad => exact q
  | exc e => exact ExR.later q A
  | ok p =>
    obtain ⟨f, S2⟩ := p
    cases f with
    | next => exact fun σ' F2 H2 A2 => q σ' F2 H2 (A.trans A2)
    | brk => exact fun σ' F2 H2 A2 => q σ' F2 H2 (A.trans A2)
    | cont => exact fun σ' F2 H2 A2 => q σ' F2 H2 (A.trans A2)
    | ret x => exact fun v σ' F2 H2 A2 r => q v σ' F2 H2 (A.trans A2) (r.earlier A)
def sNil : Sls → Res (Fl × Sls) := fun S => .ok (.next, S)
def sSeq (g1 g2 : Sls → Res (Fl × Sls)) : Sls → Res (Fl × Sls) := fun S => (g1 S).bind fun p => match p.1 with
  | .next => g2 p.2
  | f => .ok (f, p.2)
theorem pss_nilD : PSs X [] (tS K mg E P sNil) := pss_nil.imp fun D σ H ⟨F, S, R, q⟩ => q σ F H (Aft.refl R)
theorem pss_consD {st : Stmt} {rest : List Stmt} {g1 g2 : Sls → Res (Fl × Sls)} (h1 : PS X st (tS K mg E P g1)) (h2 : PSs X rest (tS K mg E P g2)) : PSs X (st :: rest) (tS K mg E P (sSeq g1 g2)) := by
  refine (pss_cons h1 h2).imp fun D σ H ⟨F, S, R, q⟩ => ⟨F, S, R, ?_⟩
  unfold sSeq at q
  cases ea : g1 S with
  | bad => rw [ea] at q; exact q
  | exc e => rw [ea] at q; exact q
  | ok p =>
    obtain ⟨f, S1⟩ := p
    rw [ea] at q
    cases f with
    | next => exact fun σ' F1 H1 A1 => ⟨F1, S1, A1.str, OutS.later A1 q⟩
    | brk => exact q
    | cont => exact q
    | ret x => exact q
theorem pss_oneD {st : Stmt} {g1 : Sls → Res (Fl × Sls)} (h1 : PS X st (tS K mg E P g1)) : PSs X [st] (tS K mg E P g1) := pss_one h1
def sPass : Sls → Res (Fl × Sls) := fun S => .ok (.next, S)
theorem ps_passD {pos : Pos} : PS X (.Pass pos) (tS K mg E P sPass) := ps_pass.imp fun D σ H ⟨F, S, R, q⟩ => q σ F H (Aft.refl R)
def sBrk : Sls → Res (Fl × Sls) := fun S => .ok (.brk, S)
theorem ps_brkD {pos : Pos} : PS X (.Break pos) (tS K mg E P sBrk) := ps_break.imp fun D σ H ⟨F, S, R, q⟩ => q σ F H (Aft.refl R)
def sCont : Sls → Res (Fl × Sls) := fun S => .ok (.cont, S)
theorem ps_contD {pos : Pos} : PS X (.Continue pos) (tS K mg E P sCont) := ps_continue.imp fun D σ H ⟨F, S, R, q⟩ => q σ F H (Aft.refl R)
def sBad : Sls → Res (Fl × Sls) := fun S => .bad
theorem ps_badD {st : Stmt} : PS X st (tS K mg E P sBad) := ps_never.imp fun D σ H ⟨F, S, R, q⟩ => q
theorem pss_badD {st : List Stmt} : PSs X st (tS K mg E P sBad) := pss_never.imp fun D σ H ⟨F, S, R, q⟩ => q
def sIf (ft : Sls → Res (Bool × Sls)) (g1 g2 : Sls → Res (Fl × Sls)) : Sls → Res (Fl × Sls) := fun S => (ft S).bind fun p => if p.1 = true then g1 p.2 else g2 p.2
theorem ps_ifD {c : Expr} {a b : List Stmt} {ft : Sls → Res (Bool × Sls)} {g1 g2 : Sls → Res (Fl × Sls)} {pos : Pos} (hc : PT X c (tT K mg E ft)) (ha : PSs X a (tS K mg E P g1)) (hb : PSs X b (tS K mg E P g2)) : PS X (.If c a b pos) (tS K mg E P (sIf ft g1 g2)) := by
  refine (ps_if hc ha hb).imp fun D σ H ⟨F, S, R, q⟩ => ⟨F, S, R, ?_⟩
  unfold sIf at q
  cases ea : ft S with
  | bad => rw [ea] at q; exact q
  | exc e => rw [ea] at q; exact q
  | ok p =>
    obtain ⟨c, S1⟩ := p
    rw [ea] at q
    intro F1 H1 A1
    cases c with
    | true => rw [if_pos rfl]; exact ⟨F1, S1, A1.str, OutS.later A1.anyP q⟩
    | false => rw [if_neg Bool.false_ne_true]; exact ⟨F1, S1, A1.str, OutS.later A1.anyP q⟩
def sRet (f : Sls → Res (Sl × Sls)) : Sls → Res (Fl × Sls) := fun S => (f S).bind fun p => .ok (.ret p.1, p.2)
theorem ps_retD {e : Expr} {f : Sls → Res (Sl × Sls)} {pos : Pos} (h : PE X e (tV K mg E f)) : PS X (.Return (some e) pos) (tS K mg E P (sRet f)) := by
  refine (ps_ret h).imp fun D σ H ⟨F, S, R, q⟩ => ⟨F, S, R, ?_⟩
  unfold sRet at q
  cases ea : f S with
  | bad => rw [ea] at q; exact q
  | exc e => rw [ea] at q; exact q
  | ok p => rw [ea] at q; exact fun v F1 H1 A1 r => q v σ F1 H1 A1.anyP r
def sRetN : Sls → Res (Fl × Sls) := fun S => .ok (.ret (.d .none), S)
theorem ps_retND {pos : Pos} : PS X (.Return none pos) (tS K mg E P sRetN) := ps_retN.imp fun D σ H ⟨F, S, R, q⟩ => q .non σ F H (Aft.refl R) (.d .non)
/-- a name's new value -/
def sSet (i : Nat) (f : Sls → Res (Sl × Sls)) : Sls → Res (Fl × Sls) := fun S => (f S).bind fun p => .ok (.next, p.2.set i p.1)
theorem Aft.store {F1 H1 : Hp} {S1 : Sls} {v : V} {x : Sl} {i : Nat} (A : Aft K P F H σ S F1 H1 σ S1) (r : Val K F H σ S F1 H1 σ S1 v x) (hi : i ∉ P) : Aft K P F H σ S F1 H1 (σ.set i (some v)) (S1.set i x) := by
  refine ⟨A.ext, ⟨A.str.same, by rw [List.length_set, List.length_set]; exact A.str.len, fun j o y e1 e2 => ?_, fun j k o p y z a e1 e2 e3 e4 o1 o2 => ?_⟩, fun a h => ?_, fun j hj => ?_, by rw [List.length_set]⟩
  · rcases get_set e1 with ⟨rfl, rfl⟩ | ⟨n1, e1⟩
    · rcases get_set e2 with ⟨_, rfl⟩ | ⟨n2, _⟩
      · exact r.sl
      · exact absurd rfl n2
    · rcases get_set e2 with ⟨rfl, _⟩ | ⟨n2, e2⟩
      · exact absurd rfl n1
      · exact A.str.sl j o y e1 e2
  · rcases get_set e1 with ⟨rfl, rfl⟩ | ⟨n1, e1⟩
    · rcases get_set e2 with ⟨_, rfl⟩ | ⟨n2, _⟩
      · rcases get_set e3 with ⟨h, _⟩ | ⟨n3, e3⟩
        · exact h
        · rcases get_set e4 with ⟨h, _⟩ | ⟨n4, e4⟩
          · exact h
          · exact absurd ⟨k, p, z, e3, e4, o2⟩ (r.own a o1).1
      · exact absurd rfl n2
    · rcases get_set e2 with ⟨rfl, _⟩ | ⟨n2, e5⟩
      · exact absurd rfl n1
      · rcases get_set e3 with ⟨rfl, rfl⟩ | ⟨n3, e3⟩
        · rcases get_set e4 with ⟨_, rfl⟩ | ⟨n4, _⟩
          · exact absurd ⟨j, o, y, e1, e5, o1⟩ (r.own a o2).1
          · exact absurd rfl n4
        · rcases get_set e4 with ⟨rfl, _⟩ | ⟨n4, e4⟩
          · exact absurd rfl n3
          · exact A.str.dis j k o p y z a e1 e5 e3 e4 o1 o2
  · obtain ⟨j, o, y, e1, e2, o1⟩ := h
    rcases get_set e1 with ⟨rfl, rfl⟩ | ⟨n1, e1⟩
    · rcases get_set e2 with ⟨_, rfl⟩ | ⟨n2, _⟩
      · exact (r.own a o1).2
      · exact absurd rfl n2
    · rcases get_set e2 with ⟨rfl, _⟩ | ⟨n2, e2⟩
      · exact absurd rfl n1
      · exact A.own a ⟨j, o, y, e1, e2, o1⟩
  · have n : i ≠ j := fun z => by subst z; exact hi hj
    rw [List.getElem?_set_ne n]
theorem set_read {i : Nat} {te : TE} {f : Sls → Res (Sl × Sls)} (hi : i ∉ P) (D : Ends) (h : tS K mg E P (sSet i f) D σ H) : tAsg (tV K mg E f) (gName i) D σ H := by
  obtain ⟨F, S, R, q⟩ := h
  refine ⟨F, S, R, ?_⟩
  unfold sSet at q
  cases ea : f S with
  | bad => rw [ea] at q; exact q
  | exc e => rw [ea] at q; exact q
  | ok p =>
    rw [ea] at q
    exact fun v F1 H1 A1 r => q _ F1 H1 (A1.anyP.store r hi)
theorem ps_setD {i : Nat} {x : Str} {e : Expr} {f : Sls → Res (Sl × Sls)} {pos pos' : Pos} (hN : X.N.Nodup) (hx : X.N[i]? = some x) (hl : Loc X.env.scope x) (he : PE X e (tV K mg E f)) (hi : i ∉ P := by decide) (hs : swapsWith e (some (.Name x pos')) pos.line X.env = pure false := by rfl)
    (hf : X.fn x = true ∨ X.env.scope.names.lookup x = some .local := by first | exact .inl rfl | exact .inr rfl | assumption) :
    PS X (.Assign [.Name x pos'] e pos) (tS K mg E P (sSet i f)) := (ps_set hN hx hl he hs hf).imp fun D σ H h => set_read (te := tC .non) hi D h
def sDrop (f : Sls → Res (Sl × Sls)) : Sls → Res (Fl × Sls) := fun S => (f S).bind fun p => .ok (.next, p.2)
theorem ps_exprD {e : Expr} {f : Sls → Res (Sl × Sls)} {pos : Pos} (he : PE X e (tV K mg E f)) (hs : swapsWith e none pos.line X.env = pure false := by rfl) : PS X (.Expr e pos) (tS K mg E P (sDrop f)) := by
  refine (ps_expr he hs).imp fun D σ H ⟨F, S, R, q⟩ => ⟨F, S, R, ?_⟩
  unfold sDrop at q
  cases ea : f S with
  | bad => rw [ea] at q; exact q
  | exc e => rw [ea] at q; exact q
  | ok p => rw [ea] at q; exact fun v F1 H1 A1 r => q σ F1 H1 A1.anyP
end
end PD

namespace PD
open PySem PySem.Spec PyProof.Rows L2
section
variable {K : PySem.W.Frag} {mg : Str → Option Value} {E : XK} {P : List Nat} {X : Cx} {F H : Hp} {σ : Sg} {S S' : Sls}

/-! ### targets -/
def tG (K : PySem.W.Frag) (ts : List Nat) (w : PyData → Sls → Option Sls) : TG := fun v σ H Q => ∃ F S d S', StR K F H σ S ∧ Rp K F v d ∧ w d S = some S' ∧ ∀ σ', Aft K [] F H σ S F H σ' S' → (∀ i, i ∉ ts → σ'[i]? = σ[i]?) → Q σ' H
def tGs (K : PySem.W.Frag) (ts : List Nat) (w : List PyData → Sls → Option Sls) : TGs := fun vs σ H Q => ∃ F S ds S', StR K F H σ S ∧ RpA K F vs ds ∧ w ds S = some S' ∧ ∀ σ', Aft K [] F H σ S F H σ' S' → (∀ i, i ∉ ts → σ'[i]? = σ[i]?) → Q σ' H
def wName (i : Nat) : PyData → Sls → Option Sls := fun d S => some (S.set i (.d d))
def wsNil : List PyData → Sls → Option Sls
  | [], S => some S
  | _, _ => none
def wsCons (w : PyData → Sls → Option Sls) (ws : List PyData → Sls → Option Sls) : List PyData → Sls → Option Sls
  | d :: ds, S => (w d S).bind (ws ds)
  | _, _ => none
def wTup (ws : List PyData → Sls → Option Sls) : PyData → Sls → Option Sls
  | .tuple ds, S => ws ds S
  | _, _ => none
theorem _root_.L2.PG.imp {e : Expr} {t t' : TG} (h : PG X e t) (i : ∀ v σ H Q, t' v σ H Q → t v σ H Q) : PG X e t' := ⟨fun pins s σ H v u Q I r q => h.run pins s σ H v u Q I r (i v σ H Q q)⟩
theorem _root_.L2.PGs.imp {e : List Expr} {t t' : TGs} (h : PGs X e t) (i : ∀ v σ H Q, t' v σ H Q → t v σ H Q) : PGs X e t' := ⟨fun pins s σ H v u Q I r q => h.run pins s σ H v u Q I r (i v σ H Q q)⟩
theorem pg_nameD {i : Nat} {x : Str} {pos : Pos} (hN : X.N.Nodup) (hi : X.N[i]? = some x) (hx : Loc X.env.scope x) (hf : X.fn x = true ∨ X.env.scope.names.lookup x = some .local := by first | exact .inl rfl | exact .inr rfl | assumption) : PG X (.Name x pos) (tG K [i] (wName i)) := by
  refine (pg_name hN hi hx hf).imp fun v σ H Q ⟨F, S, d, S', R, r, e, q⟩ => ?_
  cases e
  refine q _ ((Aft.refl (P := []) R).store (Val.d r) (by simp)) fun j hj => ?_
  have n : i ≠ j := fun z => hj (by simp [z])
  rw [List.getElem?_set_ne n]
theorem pgs_nilD : PGs X [] (tGs K [] wsNil) := by
  refine pgs_nil.imp fun vs σ H Q ⟨F, S, ds, S', R, r, e, q⟩ => ?_
  cases r with
  | nil => cases e; exact ⟨rfl, q σ (Aft.refl R) fun _ _ => rfl⟩
  | cons _ _ => cases e
theorem pgs_consD {e : Expr} {es : List Expr} {ts us : List Nat} {w : PyData → Sls → Option Sls} {ws : List PyData → Sls → Option Sls} (h1 : PG X e (tG K ts w)) (h2 : PGs X es (tGs K us ws))
    (hs : (assignEach (e :: es) X.env).map (·.2) = assign e X.env :: (assignEach es X.env).map (·.2) := by rfl) : PGs X (e :: es) (tGs K (ts ++ us) (wsCons w ws)) := by
  refine (pgs_cons h1 h2 hs).imp fun vs σ H Q ⟨F, S, ds, S', R, r, e, q⟩ => ?_
  cases r with
  | nil => cases e
  | @cons v vs d ds r rs =>
    refine ⟨v, vs, rfl, F, S, d, ?_⟩
    have e : (w d S).bind (ws ds) = some S' := e
    cases e1 : w d S with
    | none => rw [e1] at e; cases e
    | some S1 =>
      rw [e1] at e
      refine ⟨S1, R, r, rfl, fun σ1 A1 k1 => ⟨F, S1, ds, S', A1.str, rs, e, fun σ2 A2 k2 => q σ2 (A1.trans A2) fun i hi => ?_⟩⟩
      rw [List.mem_append, not_or] at hi
      rw [k2 i hi.2, k1 i hi.1]
theorem pg_tupD {es : List Expr} {k : Nat} {ts : List Nat} {ws : List PyData → Sls → Option Sls} {n : Nat} {pos : Pos} (hc : X.calm = true) (h : PGs X es (tGs X.K ts ws)) (hlen : ∀ ds S S', ws ds S = some S' → ds.length = n)
    (hn : (assignEach es X.env).length = n := by rfl) (hst : (assignEach es X.env).findIdx? (·.1) = none := by rfl) : PG X (.Tuple es k pos) (tG X.K ts (wTup ws)) := by
  refine (pg_tup hc h hn hst).imp fun v σ H Q ⟨F, S, d, S', R, r, e, q⟩ => ?_
  cases d with
  | tuple ds =>
    cases r with
    | @tup a vs _ hs ha =>
      exact ⟨a, vs, rfl, Same.sqt R.same hs, by rw [ha.length]; exact hlen _ _ _ e, F, S, ds, S', R, ha, e, q⟩
  | _ => cases e
theorem ws_len0 : ∀ ds S S', wsNil ds S = some S' → ds.length = 0
  | [], _, _, _ => rfl
  | _ :: _, _, _, h => nomatch h
theorem ws_lenS {w : PyData → Sls → Option Sls} {ws : List PyData → Sls → Option Sls} {n : Nat} (h : ∀ ds S S', ws ds S = some S' → ds.length = n) : ∀ ds S S', wsCons w ws ds S = some S' → ds.length = n + 1
  | [], _, _, e => nomatch e
  | d :: ds, S, S', e => by
    have e : (w d S).bind (ws ds) = some S' := e
    cases e1 : w d S with
    | none => rw [e1] at e; cases e
    | some S1 => rw [e1] at e; rw [List.length_cons, h ds S1 S' e]

/-! ### what is walked -/
def Walk (K : PySem.W.Frag) (F0 : Hp) (J : It) (items : List PyData) : Prop := ∀ i F H, Same F0 F → Same F H →
  (∀ d, items[i]? = some d → J.go i H ∧ ∀ x H', J.yld i H x H' → ∃ F', Grow F H F' H' ∧ Rp K F' x d) ∧ (items.length ≤ i → J.stop i H)
def OutI (K : PySem.W.Frag) (mg : Str → Option Value) (E : XK) (F H : Hp) (σ : Sg) (S : Sls) (R : It → Hp → Prop) : Res (List PyData × Sls) → Prop
  | .ok (x, S') => ∀ J F' H', Aft K [] F H σ S F' H' σ S' → Walk K F' J x → R J H'
  | .exc e => ExR K mg E F H σ S e
  | .bad => False
def tI (K : PySem.W.Frag) (mg : Str → Option Value) (E : XK) (f : Sls → Res (List PyData × Sls)) : TI := fun σ H R => ∃ F S, StR K F H σ S ∧ OutI K mg E F H σ S R (f S)
theorem _root_.L2.PI.imp {tg e : Expr} {t t' : TI} (h : PI X tg e t) (i : ∀ σ H Q, t' σ H Q → t σ H Q) : PI X tg e t' := ⟨fun pins s σ H Q I q => h.run pins s σ H Q I (i σ H Q q)⟩

/-! ### for -/
def forL (w : PyData → Sls → Option Sls) (g : Sls → Res (Fl × Sls)) : List PyData → Sls → Res (Fl × Sls)
  | [], S => .ok (.next, S)
  | d :: ds, S => match w d S with
    | none => .bad
    | some S1 => (g S1).bind fun p => match p.1 with
      | .next => forL w g ds p.2
      | .cont => forL w g ds p.2
      | .brk => .ok (.next, p.2)
      | .ret x => .ok (.ret x, p.2)
def sFor (fi : Sls → Res (List PyData × Sls)) (w : PyData → Sls → Option Sls) (g : Sls → Res (Fl × Sls)) : Sls → Res (Fl × Sls) := fun S =>
  (fi S).bind fun p => forL w g p.1 p.2
theorem Aft.tg {ts : List Nat} {σ' : Sg} {F' H' : Hp} (A : Aft K [] F H σ S F' H' σ' S') (k : ∀ i, i ∉ ts → σ'[i]? = σ[i]?) (hp : ∀ i ∈ P, i ∉ ts) : Aft K P F H σ S F' H' σ' S' := ⟨A.ext, A.str, A.own, fun i hi => k i (hp i hi), A.len⟩
theorem ps_forD {tg iter : Expr} {body : List Stmt} {fi : Sls → Res (List PyData × Sls)} {w : PyData → Sls → Option Sls} {g : Sls → Res (Fl × Sls)} {ts : List Nat} {pos : Pos} (hp : PassesOwn (model X.prog X.w) X.A X.env X.xe) (hc : X.calm = true)
    (hi : PI X tg iter (tI K mg E fi)) (hg : PG X tg (tG K ts w)) (hb : PSs X body (tS K mg E P g)) (hpt : ∀ i ∈ P, i ∉ ts := by decide) (hs : ∀ x, foldedSetIterable iter X.env x = pure x := by intro _; rfl) :
    PS X (.For tg iter body [] pos) (tS K mg E P (sFor fi w g)) := by
  refine (ps_for hp hc hi hg hb hs).imp fun D σ H ⟨F, S, R, q⟩ => ⟨F, S, R, ?_⟩
  unfold sFor at q
  cases ea : fi S with
  | bad => rw [ea] at q; exact q
  | exc e => rw [ea] at q; exact q
  | ok p =>
    obtain ⟨items, S1⟩ := p
    rw [ea] at q
    intro J F1 H1 A1 wk
    have q : OutS K mg E P F H σ S D (forL w g items S1) := q
    have q1 := OutS.later A1.anyP q
    refine ⟨fun i m σ' H' => m = items.length - i ∧ i ≤ items.length ∧ ∃ F' S', Same F1 F' ∧ StR K F' H' σ' S' ∧ OutS K mg E P F' H' σ' S' D (forL w g (items.drop i) S'), ⟨items.length, by simp, Nat.zero_le _, F1, S1, Same.refl F1, A1.str, by simpa using q1⟩, ?_⟩
    rintro i m σ' H' ⟨rfl, hi, F', S', sm, R', q'⟩
    obtain ⟨wg, ws⟩ := wk i F' H' sm R'.same
    by_cases hlt : i < items.length
    · refine .inr ?_
      have hd : items[i]? = some items[i] := List.getElem?_eq_getElem hlt
      obtain ⟨go, yl⟩ := wg _ hd
      refine ⟨go, fun σ2 H2 => ∃ F2 S2, Same F1 F2 ∧ StR K F2 H2 σ2 S2 ∧ OutS K mg E P F2 H2 σ2 S2 D (forL w g (items.drop (i + 1)) S2), fun σ2 H2 h => ⟨items.length - (i + 1), by omega, rfl, hlt, h⟩, fun x H2 hy => ?_⟩
      obtain ⟨F2, gr, rx⟩ := yl x H2 hy
      have A2 := Aft.grow (P := P) R' gr
      have q2 := OutS.later A2 q'
      rw [List.drop_eq_getElem_cons hlt] at q2
      cases ew : w items[i] S' with
      | none => rw [forL, ew] at q2; exact q2.elim
      | some S3 =>
        rw [forL, ew] at q2
        refine ⟨F2, S', _, S3, A2.str, rx, ew, fun σ3 A3 k3 => ?_⟩
        have A3 := A3.tg k3 hpt
        have q3 := OutS.later A3 q2
        refine ⟨F2, S3, A3.str, ?_⟩
        have sm2 : Same F1 F2 := sm.trans gr.ext.ff
        have q3 : OutS K mg E P F2 H2 σ3 S3 D ((g S3).bind fun p => match p.1 with
          | .next => forL w g (items.drop (i + 1)) p.2
          | .cont => forL w g (items.drop (i + 1)) p.2
          | .brk => .ok (.next, p.2)
          | .ret x => .ok (.ret x, p.2)) := q3
        cases eg : g S3 with
        | bad => rw [eg] at q3; exact q3.elim
        | exc e => rw [eg] at q3; exact q3
        | ok p =>
          obtain ⟨f, S4⟩ := p
          rw [eg] at q3
          cases f with
          | next => exact fun σ5 F5 H5 A5 => ⟨F5, S4, sm2.trans A5.ext.ff, A5.str, OutS.later A5 q3⟩
          | cont => exact fun σ5 F5 H5 A5 => ⟨F5, S4, sm2.trans A5.ext.ff, A5.str, OutS.later A5 q3⟩
          | brk => exact q3
          | ret x => exact q3
    · have e : i = items.length := by omega
      subst e
      rw [List.drop_length, forL] at q'
      exact .inl ⟨ws (Nat.le_refl _), q' σ' F' H' (Aft.refl R')⟩

/-! ### while -/
def whileL (ft : Sls → Res (Bool × Sls)) (g : Sls → Res (Fl × Sls)) : Nat → Sls → Res (Fl × Sls)
  | 0, _ => .bad
  | n + 1, S => (ft S).bind fun p => if p.1 = true then (g p.2).bind fun p => match p.1 with
      | .next => whileL ft g n p.2
      | .cont => whileL ft g n p.2
      | .brk => .ok (.next, p.2)
      | .ret x => .ok (.ret x, p.2)
    else .ok (.next, p.2)
theorem ps_whileD {c : Expr} {body : List Stmt} {ft : Sls → Res (Bool × Sls)} {g : Sls → Res (Fl × Sls)} {pos : Pos} (n : Nat) (hp : PassesOwn (model X.prog X.w) X.A X.env X.xe) (hc : PT X c (tT K mg E ft)) (hb : PSs X body (tS K mg E P g)) : PS X (.While c body [] pos) (tS K mg E P (whileL ft g n)) := by
  refine (ps_while hp hc hb).imp fun D σ H ⟨F, S, R, q⟩ => ?_
  refine ⟨fun m σ' H' => ∃ F' S', StR K F' H' σ' S' ∧ OutS K mg E P F' H' σ' S' D (whileL ft g m S'), ⟨n, F, S, R, q⟩, ?_⟩
  rintro m σ' H' ⟨F', S', R', q'⟩
  cases m with
  | zero => exact q'.elim
  | succ m =>
    refine ⟨F', S', R', ?_⟩
    rw [whileL] at q'
    cases et : ft S' with
    | bad => rw [et] at q'; exact q'.elim
    | exc e => rw [et] at q'; exact q'
    | ok p =>
      obtain ⟨b, S1⟩ := p
      rw [et] at q'
      intro F1 H1 A1
      cases b with
      | false =>
        rw [if_neg Bool.false_ne_true]
        exact q' σ' F1 H1 A1.anyP
      | true =>
        rw [if_pos rfl]
        have q1 := OutS.later A1.anyP q'
        refine ⟨fun σ2 H2 => ∃ F2 S2, StR K F2 H2 σ2 S2 ∧ OutS K mg E P F2 H2 σ2 S2 D (whileL ft g m S2), fun σ2 H2 h => ⟨m, Nat.lt_succ_self m, h⟩, F1, S1, A1.str, ?_⟩
        have q1 : OutS K mg E P F1 H1 σ' S1 D ((g S1).bind fun p => match p.1 with
          | .next => whileL ft g m p.2
          | .cont => whileL ft g m p.2
          | .brk => .ok (.next, p.2)
          | .ret x => .ok (.ret x, p.2)) := q1
        cases eg : g S1 with
        | bad => rw [eg] at q1; exact q1.elim
        | exc e => rw [eg] at q1; exact q1
        | ok p =>
          obtain ⟨f, S4⟩ := p
          rw [eg] at q1
          cases f with
          | next => exact fun σ5 F5 H5 A5 => ⟨F5, S4, A5.str, OutS.later A5 q1⟩
          | cont => exact fun σ5 F5 H5 A5 => ⟨F5, S4, A5.str, OutS.later A5 q1⟩
          | brk => exact q1
          | ret x => exact q1
end
end PD

namespace PD
open PySem PySem.Spec PyProof.Rows L2

/-! ### list comprehensions -/
def wipeS (S : Sls) : List Nat → Sls
  | [] => S
  | v :: vs => (wipeS S vs).set v .un
/-- the slots vs as they were in S1 -/
def backS (S1 : Sls) (S : Sls) : List Nat → Sls
  | [] => S
  | v :: vs => match S1[v]? with
    | some x => (backS S1 S vs).set v x
    | none => backS S1 S vs
theorem wipeS_length (S : Sls) : ∀ vs, (wipeS S vs).length = S.length
  | [] => rfl
  | v :: vs => by unfold wipeS; rw [List.length_set, wipeS_length S vs]
theorem wipeS_in {S : Sls} {i : Nat} {x : Sl} : ∀ {vs : List Nat}, i ∈ vs → (wipeS S vs)[i]? = some x → x = .un
  | v :: vs, h, e => by
    unfold wipeS at e
    rcases get_set e with ⟨rfl, rfl⟩ | ⟨n, e⟩
    · rfl
    · rcases List.mem_cons.mp h with z | z
      · exact absurd z.symm n
      · exact wipeS_in z e
theorem wipeS_out {S : Sls} {i : Nat} : ∀ {vs : List Nat}, i ∉ vs → (wipeS S vs)[i]? = S[i]?
  | [], _ => rfl
  | v :: vs, h => by
    unfold wipeS
    have n : v ≠ i := fun z => h (by simp [z])
    rw [List.getElem?_set_ne n]
    exact wipeS_out fun z => h (List.mem_cons_of_mem _ z)
theorem wipe_out' {σ : Sg} {i : Nat} : ∀ {vs : List Nat}, i ∉ vs → (wipe σ vs)[i]? = σ[i]?
  | [], _ => rfl
  | v :: vs, h => by
    unfold wipe
    have n : v ≠ i := fun z => h (by simp [z])
    rw [List.getElem?_set_ne n]
    exact wipe_out' fun z => h (List.mem_cons_of_mem _ z)
theorem backS_length (S1 S : Sls) : ∀ vs, (backS S1 S vs).length = S.length
  | [] => rfl
  | v :: vs => by
    unfold backS
    split
    · rw [List.length_set, backS_length S1 S vs]
    · exact backS_length S1 S vs
theorem backS_in {S1 S : Sls} {i : Nat} (hl : S1.length = S.length) : ∀ {vs : List Nat}, i ∈ vs → (backS S1 S vs)[i]? = S1[i]?
  | v :: vs, h => by
    unfold backS
    by_cases e : v = i
    · subst e
      cases q : S1[v]? with
      | none =>
        show (backS S1 S vs)[v]? = none
        rw [List.getElem?_eq_none_iff] at q ⊢
        rw [backS_length]; omega
      | some x =>
        show ((backS S1 S vs).set v x)[v]? = some x
        rw [List.getElem?_set_self]
        rw [backS_length, ← hl]
        exact (List.getElem?_eq_some_iff.mp q).1
    · have hm : i ∈ vs := by
        rcases List.mem_cons.mp h with z | z
        · exact absurd z.symm e
        · exact z
      split
      · rw [List.getElem?_set_ne e]; exact backS_in hl hm
      · exact backS_in hl hm
theorem backS_out {S1 S : Sls} {i : Nat} : ∀ {vs : List Nat}, i ∉ vs → (backS S1 S vs)[i]? = S[i]?
  | [], _ => rfl
  | v :: vs, h => by
    unfold backS
    have n : v ≠ i := fun z => h (by simp [z])
    have m : i ∉ vs := fun z => h (List.mem_cons_of_mem _ z)
    split
    · rw [List.getElem?_set_ne n]; exact backS_out m
    · exact backS_out m
def lcL (vs : List Nat) (w : PyData → Sls → Option Sls) (ft : Sls → Res (Bool × Sls)) (fe : Sls → Res (PyData × Sls)) : List PyData → Sls → Res (List PyData × Sls)
  | [], S => .ok ([], S)
  | d :: ds, S => match w d S with
    | none => .bad
    | some S1 => match ft S1 with
      | .ok (true, S2) => match fe S2 with
        | .ok (y, S3) => (lcL vs w ft fe ds (wipeS S3 vs)).bind fun r => .ok (y :: r.1, r.2)
        | _ => .bad
      | .ok (false, S2) => lcL vs w ft fe ds (wipeS S2 vs)
      | _ => .bad
def eLc (fi : Sls → Res (List PyData × Sls)) (vs : List Nat) (w : PyData → Sls → Option Sls) (ft : Sls → Res (Bool × Sls)) (fe : Sls → Res (PyData × Sls)) : Sls → Res (Sl × Sls) := fun S =>
  (fi S).bind fun p => (lcL vs w ft fe p.1 (wipeS p.2 vs)).bind fun r => if r.1.length ≤ sizeLine then .ok (.ol r.1, backS p.2 r.2 vs) else .bad
def tYs : Sls → Res (Bool × Sls) := fun S => .ok (true, S)

section
variable {K : PySem.W.Frag} {mg : Str → Option Value} {E : XK} {P : List Nat} {X : Cx} {F H F' H' : Hp} {σ : Sg} {S S' : Sls}
theorem StR.wipe (R : StR K F H σ S) (vs : List Nat) : StR K F H (wipe σ vs) (wipeS S vs) := by
  refine ⟨R.same, by rw [wipe_length, wipeS_length]; exact R.len, fun i o x h1 h2 => ?_, fun i j o p x y a h1 h2 h3 h4 o1 o2 => ?_⟩
  · by_cases hi : i ∈ vs
    · rw [wipeS_in hi h2]; trivial
    · rw [wipe_out' hi] at h1; rw [wipeS_out hi] at h2
      exact R.sl i o x h1 h2
  · by_cases hi : i ∈ vs
    · rw [wipeS_in hi h2, ow_un] at o1; cases o1
    · by_cases hj : j ∈ vs
      · rw [wipeS_in hj h4, ow_un] at o2; cases o2
      · rw [wipe_out' hi] at h1; rw [wipeS_out hi] at h2; rw [wipe_out' hj] at h3; rw [wipeS_out hj] at h4
        exact R.dis i j o p x y a h1 h2 h3 h4 o1 o2
theorem Own.wiped {vs : List Nat} {a : Addr} (h : Own (wipe σ vs) (wipeS S vs) a) : Own σ S a ∧ ∃ i o x, i ∉ vs ∧ σ[i]? = some o ∧ S[i]? = some x ∧ ow o x = some a := by
  obtain ⟨i, o, x, h1, h2, h3⟩ := h
  by_cases hi : i ∈ vs
  · rw [wipeS_in hi h2, ow_un] at h3; cases h3
  · rw [wipe_out' hi] at h1; rw [wipeS_out hi] at h2
    exact ⟨⟨i, o, x, h1, h2, h3⟩, i, o, x, hi, h1, h2, h3⟩
/-- the wiped state of a slots' state whose other slots are the outer ones -/
theorem StR.rewipe {σ2 : Sg} {vs : List Nat} (R : StR K F H σ2 S) (e : L2.wipe σ2 vs = L2.wipe σ vs) : StR K F H (L2.wipe σ vs) (wipeS S vs) := e ▸ R.wipe vs
/-- behind a block: the outer slots again -/
theorem Aft.block {vs : List Nat} {S1 : Sls} (R : StR K F H σ S) (A : Aft K [] F H (wipe σ vs) (wipeS S vs) F' H' (wipe σ vs) S1) : Aft K [] F H σ S F' H' σ (backS S S1 vs) := by
  have hl : S.length = S1.length := by
    have h1 := A.str.len
    have h2 := R.len
    rw [wipe_length] at h1; omega
  have nown : ∀ i o x a, i ∈ vs → σ[i]? = some o → S[i]? = some x → ow o x = some a → ¬ Own (wipe σ vs) (wipeS S vs) a := fun i o x a hi h1 h2 h3 z => by
    obtain ⟨_, j, p, y, hj, e1, e2, e3⟩ := Own.wiped z
    have := R.dis i j o p x y a h1 h2 e1 e2 h3 e3
    subst this
    exact hj hi
  refine ⟨A.ext.weak fun a h => (Own.wiped h).1, ⟨A.str.same, by rw [backS_length, ← hl]; exact R.len, fun i o x h1 h2 => ?_, fun i j o p x y a h1 h2 h3 h4 o1 o2 => ?_⟩, fun a h => ?_, fun _ _ => rfl, rfl⟩
  · by_cases hi : i ∈ vs
    · rw [backS_in hl hi] at h2
      have sl := R.sl i o x h1 h2
      cases x with
      | un => trivial
      | d x => obtain ⟨v, e, r⟩ := sl; exact ⟨v, e, r.mono A.ext.ff⟩
      | sc ns => obtain ⟨a, e, r⟩ := sl; exact ⟨a, e, A.ext.ff.seq r⟩
      | ol xs =>
        obtain ⟨a, us, rfl, e1, e2, r⟩ := sl
        have n := nown i _ _ a hi h1 h2 rfl
        refine ⟨a, us, rfl, ?_, A.ext.fr _ _ e2 n, r.mono A.ext.ff⟩
        cases q : F' a with
        | none => rfl
        | some o =>
          rcases A.ext.nf a (by rw [q]; simp) with z | z | z
          · exact absurd e1 z
          · rw [e2] at z; cases z
          · exact absurd z n
      | od kvs =>
        obtain ⟨a, u, ps, rfl, e1, e2, e3, e4, r⟩ := sl
        have n := nown i _ _ a hi h1 h2 rfl
        refine ⟨a, u, ps, rfl, ?_, A.ext.fr _ _ e2 n, e3, e4, r.mono A.ext.ff⟩
        cases q : F' a with
        | none => rfl
        | some o =>
          rcases A.ext.nf a (by rw [q]; simp) with z | z | z
          · exact absurd e1 z
          · rw [e2] at z; cases z
          · exact absurd z n
    · rw [backS_out hi] at h2
      exact A.str.sl i o x (by rw [wipe_out' hi]; exact h1) h2
  · have inOut : ∀ i j o p x y, i ∈ vs → j ∉ vs → σ[i]? = some o → S[i]? = some x → σ[j]? = some p → S1[j]? = some y → ow o x = some a → ow p y = some a → False := fun i j o p x y hi hj h1 h2 h3 h4 o1 o2 => by
      have n := nown i o x a hi h1 h2 o1
      rcases A.own a ⟨j, p, y, by rw [wipe_out' hj]; exact h3, h4, o2⟩ with z | z
      · exact n z
      · exact (R.own_none ⟨i, o, x, h1, h2, o1⟩).2 z
    by_cases hi : i ∈ vs
    · rw [backS_in hl hi] at h2
      by_cases hj : j ∈ vs
      · rw [backS_in hl hj] at h4
        exact R.dis i j o p x y a h1 h2 h3 h4 o1 o2
      · rw [backS_out hj] at h4
        exact (inOut i j o p x y hi hj h1 h2 h3 h4 o1 o2).elim
    · rw [backS_out hi] at h2
      by_cases hj : j ∈ vs
      · rw [backS_in hl hj] at h4
        exact (inOut j i p o y x hj hi h3 h4 h1 h2 o2 o1).elim
      · rw [backS_out hj] at h4
        exact A.str.dis i j o p x y a (by rw [wipe_out' hi]; exact h1) h2 (by rw [wipe_out' hj]; exact h3) h4 o1 o2
  · obtain ⟨i, o, x, h1, h2, h3⟩ := h
    by_cases hi : i ∈ vs
    · rw [backS_in hl hi] at h2
      exact .inl ⟨i, o, x, h1, h2, h3⟩
    · rw [backS_out hi] at h2
      rcases A.own a ⟨i, o, x, by rw [wipe_out' hi]; exact h1, h2, h3⟩ with z | z
      · exact .inl (Own.wiped z).1
      · exact .inr z
/-- the list that a comprehension makes is changed -/
theorem StR.other {D : Addr} {o : HO} (R : StR K F H σ S) (hF : F D = none) (hO : ¬ Own σ S D) : StR K F (upd H D o) σ S := by
  refine ⟨fun b u e => ?_, R.len, fun i p x h1 h2 => ?_, R.dis⟩
  · rw [upd_ne (ne_of_none e hF)]; exact R.same b u e
  · have sl := R.sl i p x h1 h2
    cases x with
    | un => trivial
    | d x => exact sl
    | sc ns => exact sl
    | ol xs =>
      obtain ⟨a, us, rfl, e1, e2, r⟩ := sl
      have n : a ≠ D := fun z => hO ⟨i, _, _, h1, h2, by rw [z]; rfl⟩
      exact ⟨a, us, rfl, e1, by rw [upd_ne n]; exact e2, r⟩
    | od kvs =>
      obtain ⟨a, u, ps, rfl, e1, e2, e3, e4, r⟩ := sl
      have n : a ≠ D := fun z => hO ⟨i, _, _, h1, h2, by rw [z]; rfl⟩
      exact ⟨a, u, ps, rfl, e1, by rw [upd_ne n]; exact e2, e3, e4, r⟩
theorem Aft.other {D : Addr} {o : HO} {σ' : Sg} (A : Aft K P F H σ S F' H' σ' S') (hH : H D = none) (hF : F' D = none) (hO : ¬ Own σ' S' D) : Aft K P F H σ S F' (upd H' D o) σ' S' := by
  refine ⟨⟨A.ext.ff, fun b u e n => ?_, fun b e => ?_, A.ext.nf⟩, A.str.other hF hO, A.own, A.keep, A.len⟩
  · rw [upd_ne (ne_of_none e hH)]; exact A.ext.fr b u e n
  · unfold upd; split
    · simp
    · exact A.ext.nn b e
theorem Aft.wipe {σ' : Sg} (A : Aft K [] F H σ S F' H' σ' S') (vs : List Nat) : Aft K [] F H σ S F' H' (wipe σ' vs) (wipeS S' vs) :=
  ⟨A.ext, A.str.wipe vs, fun a h => A.own a (Own.wiped h).1, fun _ h => (nomatch h), by rw [wipe_length]; exact A.len⟩
theorem wipe_get {σ : Sg} {i : Nat} : ∀ {vs : List Nat}, i ∈ vs → i < σ.length → (L2.wipe σ vs)[i]? = some none
  | v :: vs, h, hl => by
    unfold L2.wipe
    by_cases e : v = i
    · subst e
      rw [List.getElem?_set_self (by rw [wipe_length]; exact hl)]
    · rw [List.getElem?_set_ne e]
      rcases List.mem_cons.mp h with z | z
      · exact absurd z.symm e
      · exact wipe_get z hl
theorem wipe_eq {σ2 : Sg} {vs ts : List Nat} (hts : ∀ i ∈ ts, i ∈ vs) (hl : σ2.length = (L2.wipe σ vs).length) (k : ∀ i, i ∉ ts → σ2[i]? = (L2.wipe σ vs)[i]?) : L2.wipe σ2 vs = L2.wipe σ vs := by
  rw [wipe_length] at hl
  refine List.ext_getElem? fun i => ?_
  by_cases hi : i ∈ vs
  · by_cases h : i < σ.length
    · rw [wipe_get hi h, wipe_get hi (by omega)]
    · rw [List.getElem?_eq_none (by rw [wipe_length]; omega), List.getElem?_eq_none (by rw [wipe_length]; omega)]
  · rw [wipe_out' hi, k i fun z => hi (hts i z)]
abbrev EN : XK := fun _ _ _ => False

theorem lcL_noexc {vs : List Nat} {w : PyData → Sls → Option Sls} {ft : Sls → Res (Bool × Sls)} {fe : Sls → Res (PyData × Sls)} : ∀ (l : List PyData) (T : Sls) (e : Xc), lcL vs w ft fe l T ≠ .exc e := by
  intro l
  induction l with
  | nil => intro T e h; cases h
  | cons d ds ih =>
    intro T e h
    rw [lcL] at h
    cases e1 : w d T with
    | none => rw [e1] at h; cases h
    | some T1 =>
      rw [e1] at h
      simp only at h
      cases e2 : ft T1 with
      | bad => rw [e2] at h; cases h
      | exc _ => rw [e2] at h; cases h
      | ok p =>
        obtain ⟨b, T2⟩ := p
        rw [e2] at h
        cases b with
        | false => exact ih _ _ h
        | true =>
          simp only at h
          cases e4 : fe T2 with
          | bad => rw [e4] at h; cases h
          | exc _ => rw [e4] at h; cases h
          | ok p2 =>
            rw [e4] at h
            simp only at h
            cases e3 : lcL vs w ft fe ds (wipeS p2.2 vs) with
            | bad => rw [e3] at h; cases h
            | exc _ => exact ih _ _ e3
            | ok _ => rw [e3] at h; cases h
theorem lc_read {fi : Sls → Res (List PyData × Sls)} {w : PyData → Sls → Option Sls} {ft : Sls → Res (Bool × Sls)} {fe : Sls → Res (PyData × Sls)} {vs ts : List Nat} (hts : ∀ i ∈ ts, i ∈ vs) {Q : VK} (h : tV K mg E (eLc fi vs w ft fe) σ H Q) :
    tLc (tI K mg E fi) (tG K ts w) (tT K mg EN ft) (tE K mg EN fe) vs σ H Q := by
  obtain ⟨F, S, R, q⟩ := h
  refine ⟨F, S, R, ?_⟩
  unfold eLc at q
  cases ea : fi S with
  | bad => rw [ea] at q; exact q
  | exc e => rw [ea] at q; exact q
  | ok p =>
    obtain ⟨items, S1⟩ := p
    rw [ea] at q
    intro J F1 H1 A1 wk D hD
    have q : OutV K mg E F H σ S Q ((lcL vs w ft fe items (wipeS S1 vs)).bind fun r => if r.1.length ≤ sizeLine then .ok (.ol r.1, backS S1 r.2 vs) else .bad) := q
    cases eb : lcL vs w ft fe items (wipeS S1 vs) with
    | bad => rw [eb] at q; exact q.elim
    | exc e =>
      -- a comprehension's loop raises nothing
      exfalso
      exact lcL_noexc _ _ _ eb
    | ok r =>
      obtain ⟨ys, S2⟩ := r
      rw [eb] at q
      have q : OutV K mg E F H σ S Q (if ys.length ≤ sizeLine then .ok (.ol ys, backS S1 S2 vs) else .bad) := q
      by_cases hz : ys.length ≤ sizeLine
      case neg => rw [if_neg hz] at q; exact q.elim
      rw [if_pos hz] at q
      have R1 := A1.str
      have Rb : StR K F1 H1 (wipe σ vs) (wipeS S1 vs) := R1.wipe vs
      have hFD : F1 D = none := R1.same.free hD
      have nO : ¬ Own (wipe σ vs) (wipeS S1 vs) D := fun z => (R1.own_none (Own.wiped z).1).2 hD
      refine ⟨fun i m H' => m = items.length - i ∧ i ≤ items.length ∧ ∃ F' S' acc done more, Aft K [] F1 H1 (wipe σ vs) (wipeS S1 vs) F' H' (wipe σ vs) S' ∧ F' D = none ∧ H' D = some (.lst acc) ∧ RpA K F' acc done ∧ ¬ Own (wipe σ vs) S' D ∧ lcL vs w ft fe (items.drop i) S' = .ok (more, S2) ∧ done ++ more = ys,
        ⟨items.length, by simp, Nat.zero_le _, F1, wipeS S1 vs, [], [], ys, (Aft.refl Rb).other hD hFD nO, hFD, upd_same, .nil, nO, by simpa using eb, rfl⟩, ?_⟩
      rintro i m H' ⟨rfl, hi, F', S', acc, done, more, A', fD, hD', racc, nO', hl, hys⟩
      obtain ⟨wg, wst⟩ := wk i F' H' A'.ext.ff A'.str.same
      by_cases hlt : i < items.length
      · refine .inr ?_
        have hd : items[i]? = some items[i] := List.getElem?_eq_getElem hlt
        obtain ⟨go, yl⟩ := wg _ hd
        rw [List.drop_eq_getElem_cons hlt, lcL] at hl
        refine ⟨go, fun H2 => ∃ F2 S2' acc2 done2 more2, Aft K [] F1 H1 (wipe σ vs) (wipeS S1 vs) F2 H2 (wipe σ vs) S2' ∧ F2 D = none ∧ H2 D = some (.lst acc2) ∧ RpA K F2 acc2 done2 ∧ ¬ Own (wipe σ vs) S2' D ∧ lcL vs w ft fe (items.drop (i + 1)) S2' = .ok (more2, S2) ∧ done2 ++ more2 = ys,
          fun H2 h => ⟨items.length - (i + 1), by omega, rfl, hlt, h⟩, fun x H2 hy => ?_⟩
        obtain ⟨F2, gr, rx⟩ := yl x H2 hy
        have A2 := A'.trans (Aft.grow (P := []) A'.str gr)
        have g2D : F2 D = none := by
          cases z : F2 D with
          | none => rfl
          | some o =>
            rcases gr.ext.nf D (by rw [z]; simp) with y | y | y
            · exact absurd fD y
            · rw [hD'] at y; cases y
            · exact y.elim
        have h2D : H2 D = some (.lst acc) := gr.hh _ _ hD'
        cases ew : w items[i] S' with
        | none => rw [ew] at hl; cases hl
        | some S3 =>
          rw [ew] at hl
          simp only at hl
          refine ⟨F2, S', _, S3, A2.str, rx, ew, fun σ2 A3 k3 => ⟨wipe_eq hts A3.len k3, F2, S3, A3.str, ?_⟩⟩
          have A23 := A2.trans A3
          have hw2 : L2.wipe σ2 vs = L2.wipe σ vs := wipe_eq hts A3.len k3
          have nO3 : ¬ Own σ2 S3 D := fun z => by
            rcases A3.own D z with y | y
            · exact nO' y
            · rw [h2D] at y; cases y
          cases et : ft S3 with
          | bad => rw [et] at hl; cases hl
          | exc _ => rw [et] at hl; cases hl
          | ok pt =>
            obtain ⟨b, S4⟩ := pt
            rw [et] at hl
            intro F4 H4 A4
            have A24 := A23.trans A4
            have h4D : H4 D = some (.lst acc) := A4.ext.fr _ _ h2D nO3
            have f4D : F4 D = none := by
              cases z : F4 D with
              | none => rfl
              | some o =>
                rcases A4.ext.nf D (by rw [z]; simp) with y | y | y
                · exact absurd g2D y
                · rw [h2D] at y; cases y
                · exact absurd y nO3
            have nO4 : ¬ Own σ2 S4 D := fun z => by
              rcases A4.own D z with y | y
              · exact nO3 y
              · rw [h2D] at y; cases y
            cases b with
            | false =>
              rw [if_neg Bool.false_ne_true]
              have A5 := A24.wipe vs
              rw [hw2] at A5
              refine ⟨F4, wipeS S4 vs, acc, done, more, A5, f4D, h4D, racc.mono (gr.ext.ff.trans A4.ext.ff), fun z => nO4 ?_, hl, hys⟩
              rw [← hw2] at z
              exact (Own.wiped z).1
            | true =>
              rw [if_pos rfl]
              simp only at hl
              refine ⟨F4, S4, A4.str, ?_⟩
              cases ee : fe S4 with
              | bad => rw [ee] at hl; cases hl
              | exc _ => rw [ee] at hl; cases hl
              | ok pe =>
                obtain ⟨y, S5⟩ := pe
                rw [ee] at hl
                simp only at hl
                intro v F5 H5 A5 rv
                have A25 := A24.trans A5
                have h5D : H5 D = some (.lst acc) := A5.ext.fr _ _ h4D nO4
                have f5D : F5 D = none := by
                  cases z : F5 D with
                  | none => rfl
                  | some o =>
                    rcases A5.ext.nf D (by rw [z]; simp) with y | y | y
                    · exact absurd f4D y
                    · rw [h4D] at y; cases y
                    · exact absurd y nO4
                have nO5 : ¬ Own σ2 S5 D := fun z => by
                  rcases A5.own D z with y | y
                  · exact nO4 y
                  · rw [h4D] at y; cases y
                cases el : lcL vs w ft fe (items.drop (i + 1)) (wipeS S5 vs) with
                | bad => rw [el] at hl; cases hl
                | exc _ => rw [el] at hl; cases hl
                | ok pr =>
                  obtain ⟨more2, S6⟩ := pr
                  rw [el] at hl
                  have hl2 : Res.ok (y :: more2, S6) = Res.ok (more, S2) := hl
                  injection hl2 with hl3
                  injection hl3 with hm hs
                  subst hm hs
                  have racc2 : RpA K F5 acc done := racc.mono ((gr.ext.ff.trans A4.ext.ff).trans A5.ext.ff)
                  have len : acc.length < sizeLine := by
                    rw [racc.length]
                    have : ys.length = done.length + (more2.length + 1) := by rw [← hys, List.length_append, List.length_cons]
                    omega
                  refine ⟨acc, h5D, len, F5, wipeS S5 vs, acc ++ [v], done ++ [y], more2, ?_, f5D, upd_same, racc2.append (.cons rv .nil), fun z => nO5 ?_, el, by rw [← hys]; simp⟩
                  · have A6 := (A25.other hD f5D nO5 (o := .lst (acc ++ [v]))).wipe vs
                    rw [hw2] at A6
                    exact A6
                  · rw [← hw2] at z
                    exact (Own.wiped z).1
      · have e : i = items.length := by omega
        subst e
        rw [List.drop_length, lcL] at hl
        injection hl with hl3
        injection hl3 with hm hs
        subst hm hs
        rw [List.append_nil] at hys
        subst hys
        refine .inl ⟨wst (Nat.le_refl _), ?_⟩
        have AB := Aft.block R1 A'
        refine q _ F' H' (A1.trans AB) ⟨⟨D, acc, rfl, fD, hD', racc⟩, fun a ha => ?_⟩
        cases ha
        refine ⟨fun z => ?_, .inr (A1.non0 hD)⟩
        obtain ⟨j, o, x, e1, e2, e3⟩ := z
        have hlen : S1.length = S'.length := by
          have h1 := A'.str.len
          have h2 := R1.len
          rw [wipe_length] at h1; omega
        by_cases hj : j ∈ vs
        · rw [backS_in hlen hj] at e2
          exact (R1.own_none ⟨j, o, x, e1, e2, e3⟩).2 hD
        · rw [backS_out hj] at e2
          exact nO' ⟨j, o, x, by rw [wipe_out' hj]; exact e1, e2, e3⟩
theorem pe_lcD {elt tg iter : Expr} {ifs : List Expr} {scope : Scope} {own : List (Str × Nat)} {pos : Pos} {fi : Sls → Res (List PyData × Sls)} {w : PyData → Sls → Option Sls} {ft : Sls → Res (Bool × Sls)} {fe : Sls → Res (PyData × Sls)} {ts : List Nat} (hc : X.calm = true) (hN : X.N.Nodup)
    (hi : PI X tg iter (tI K mg E fi)) (ok : BlkOk X.N X.env.scope scope own) (hts : ∀ i ∈ ts, i ∈ own.map (·.2))
    (hg : ∀ (s : Shared) (H : Hp) (C : Addr) (cl : List (Str × Addr)) (fp : List Addr), PG (X.blk s H scope (compEnvC scope cl C X.env) fp) tg (tG K ts w)) (ht : ∀ (s : Shared) (H : Hp) (C : Addr) (cl : List (Str × Addr)) (fp : List Addr), PTs (X.blk s H scope (compEnvC scope cl C X.env) fp) ifs (tT K mg EN ft))
    (he : ∀ (s : Shared) (H : Hp) (C : Addr) (cl : List (Str × Addr)) (fp : List Addr), PE (X.blk s H scope (compEnvC scope cl C X.env) fp) elt (tE K mg EN fe)) (hs : ∀ x, foldedSetIterable iter X.env x = pure x := by intro _; rfl) :
    PE X (.ListComp elt [⟨tg, iter, ifs, 0⟩] scope pos) (tV K mg E (eLc fi (own.map (·.2)) w ft fe)) :=
  (pe_lc hc hN hi ok hg ht he hs).imp fun _ _ _ h => lc_read hts h
theorem ps_setLcD {i : Nat} {y : Str} {py : Pos} {elt tg iter : Expr} {ifs : List Expr} {scope : Scope} {own : List (Str × Nat)} {pos spos : Pos} {fi : Sls → Res (List PyData × Sls)} {w : PyData → Sls → Option Sls} {ft : Sls → Res (Bool × Sls)} {fe : Sls → Res (PyData × Sls)} {ts : List Nat} (hc : X.calm = true) (hN : X.N.Nodup) (hy : X.N[i]? = some y) (hyl : X.env.scope.names.lookup y = some .local)
    (hsw : swapsWith (.ListComp elt [⟨tg, iter, ifs, 0⟩] scope pos) (some (.Name y py)) spos.line X.env = pure true) (hi : PI X tg iter (tI K mg E fi)) (ok : BlkOk X.N X.env.scope scope own) (hts : ∀ i ∈ ts, i ∈ own.map (·.2))
    (hg : ∀ (s : Shared) (H : Hp) (C : Addr) (cl : List (Str × Addr)) (fp : List Addr), PG (X.blk s H scope (compEnvC scope cl C X.env) fp) tg (tG K ts w)) (ht : ∀ (s : Shared) (H : Hp) (C : Addr) (cl : List (Str × Addr)) (fp : List Addr), PTs (X.blk s H scope (compEnvC scope cl C X.env) fp) ifs (tT K mg EN ft))
    (he : ∀ (s : Shared) (H : Hp) (C : Addr) (cl : List (Str × Addr)) (fp : List Addr), PE (X.blk s H scope (compEnvC scope cl C X.env) fp) elt (tE K mg EN fe)) (hip : i ∉ P := by decide) (hs : ∀ x, foldedSetIterable iter X.env x = pure x := by intro _; rfl) :
    PS X (.Assign [.Name y py] (.ListComp elt [⟨tg, iter, ifs, 0⟩] scope pos) spos) (tS K mg E P (sSet i (eLc fi (own.map (·.2)) w ft fe))) := by
  refine (ps_setLc hc hN hy hyl hsw hi ok hg ht he hs).imp fun D σ H h => ?_
  have h2 := set_read (te := tC .non) hip D h
  exact lc_read hts h2
theorem pts_nilD : PTs X [] (tT K mg E tYs) := ⟨fun pins s σ H Q I ⟨F, S, R, q⟩ => pts_nil.run pins s σ H Q I (q F H (Aft.refl R))⟩
theorem pts_oneD {c : Expr} {ft : Sls → Res (Bool × Sls)} (h : PT X c (tT K mg E ft)) : PTs X [c] (tT K mg E ft) := pts_one h
end
end PD

namespace PD
open PySem PySem.Spec PyProof.Rows L2
section
variable {K : PySem.W.Frag} {mg : Str → Option Value} {E : XK} {P : List Nat} {X : Cx} {F H F' H' : Hp} {σ : Sg} {S S' : Sls}

/-! ### sources -/
theorem pi_or {tg e : Expr} {t1 t2 : TI} (h1 : PI X tg e t1) (h2 : PI X tg e t2) : PI X tg e (fun σ H R => t1 σ H R ∨ t2 σ H R) := ⟨fun pins s σ H R I q => by
  rcases q with q | q
  · exact h1.run pins s σ H R I q
  · exact h2.run pins s σ H R I q⟩
theorem seqL_inj {F H : Hp} {a : Addr} {xs ys : List V} (h1 : Rd H a (.lst xs)) (h2 : Rd H a (.lst ys)) : xs = ys := by
  rcases h1 with h1 | ⟨o, h1⟩
  · rcases h2 with h2 | ⟨o2, h2⟩
    · rw [h1] at h2; cases h2; rfl
    · rw [h1] at h2; cases h2
  · rcases h2 with h2 | ⟨o2, h2⟩
    · rw [h1] at h2; cases h2
    · rw [h1] at h2; cases h2; rfl
/-- a list, a tuple -/
def asSeq : PyData → Res (List PyData)
  | .list xs => .ok xs
  | .tuple xs => .ok xs
  | _ => .bad
def iD (f : Sls → Res (PyData × Sls)) : Sls → Res (List PyData × Sls) := fun S => (f S).bind fun p => (asSeq p.1).bind fun xs => .ok (xs, p.2)
theorem walk_list {F0 : Hp} {a : Addr} {vs : List V} {ds : List PyData} (hs : F0 a = some (.lst vs)) (r : RpA K F0 vs ds) : Walk K F0 (Itl K a) ds := fun i F H s1 s2 => by
  have hH : SqL K H a vs := s2.seq (s1.seq (SqL.of hs))
  refine ⟨fun d hd => ?_, fun hl => ⟨vs, hH, by rw [r.length]; exact hl⟩⟩
  obtain ⟨v, hv, rv⟩ := r.get hd
  refine ⟨⟨vs, v, hH, hv⟩, fun x H' y => ?_⟩
  obtain ⟨rfl, y⟩ := y
  have e := y vs hH
  rw [hv] at e; cases e
  exact ⟨F, Grow.refl s2, rv.mono s1⟩
theorem walk_tup {F0 : Hp} {a : Addr} {vs : List V} {ds : List PyData} (hs : SqT K F0 a vs) (r : RpA K F0 vs ds) : Walk K F0 (Itt K a) ds := fun i F H s1 s2 => by
  have hH : SqT K H a vs := Same.sqt s2 (Same.sqt s1 hs)
  refine ⟨fun d hd => ?_, fun hl => ⟨vs, hH, by rw [r.length]; exact hl⟩⟩
  obtain ⟨v, hv, rv⟩ := r.get hd
  refine ⟨⟨vs, v, hH, hv⟩, fun x H' y => ?_⟩
  obtain ⟨rfl, y⟩ := y
  have e := y vs hH
  rw [hv] at e; cases e
  exact ⟨F, Grow.refl s2, rv.mono s1⟩
theorem pi_D {tg e : Expr} {f : Sls → Res (PyData × Sls)} (hK : X.K = K) (h : PE X e (tE K mg E f)) : PI X tg e (tI K mg E (iD f)) := by
  subst hK
  refine (pi_or (pi_list h) (pi_tup h)).imp fun σ H R q => ?_
  obtain ⟨F, S, Rs, q⟩ := q
  unfold iD at q
  cases ea : f S with
  | bad => rw [ea] at q; exact q.elim
  | exc e =>
    rw [ea] at q
    exact .inl ⟨F, S, Rs, by rw [ea]; exact q⟩
  | ok p =>
    obtain ⟨x, S1⟩ := p
    rw [ea] at q
    cases x with
    | list ds =>
      refine .inl ⟨F, S, Rs, ?_⟩
      rw [ea]
      intro v F1 H1 A1 r1
      cases r1 with
      | lst hs ha => exact ⟨_, rfl, ⟨_, A1.str.same.seq (SqL.of hs)⟩, q _ F1 H1 A1 (walk_list hs ha)⟩
    | tuple ds =>
      refine .inr ⟨F, S, Rs, ?_⟩
      rw [ea]
      intro v F1 H1 A1 r1
      cases r1 with
      | tup hs ha => exact ⟨_, rfl, ⟨_, Same.sqt A1.str.same hs⟩, q _ F1 H1 A1 (walk_tup hs ha)⟩
    | _ => exact q.elim
/-- lo, lo + 1, .. -/
def rngD (lo : Int) (n : Nat) : List PyData := (List.range n).map fun (i : Nat) => .int (lo + i)
theorem walk_range {F0 : Hp} {lo : Int} {n : Nat} : Walk K F0 (Itr lo n) (rngD lo n) := fun i F H s1 s2 => by
  refine ⟨fun d hd => ?_, fun hl => by unfold rngD at hl; rw [List.length_map, List.length_range] at hl; exact hl⟩
  unfold rngD at hd
  rw [List.getElem?_map] at hd
  by_cases hi : i < n
  · rw [List.getElem?_range hi] at hd
    cases hd
    refine ⟨hi, fun x H' y => ?_⟩
    obtain ⟨rfl, rfl⟩ := y
    exact ⟨F, Grow.refl s2, .int _⟩
  · rw [List.getElem?_eq_none (by simpa using hi)] at hd; cases hd
def lim62 (i : Int) : Bool := decide (-(2 ^ 62) ≤ i) && decide (i < 2 ^ 62)
def rng1 : List PyData → Res (List PyData)
  | [.int j] => if lim62 j = true then .ok (rngD 0 j.toNat) else .bad
  | _ => .bad
def rng2 : List PyData → Res (List PyData)
  | [.int i, .int j] => if lim62 i = true ∧ lim62 j = true then .ok (rngD i (j - i).toNat) else .bad
  | _ => .bad
def iA (o : List PyData → Res (List PyData)) (fr : Sls → Res (List PyData × Sls)) : Sls → Res (List PyData × Sls) := fun S => (fr S).bind fun p => (o p.1).bind fun xs => .ok (xs, p.2)
theorem lim62_of {i : Int} (h : lim62 i = true) : -(2 ^ 62) ≤ i ∧ i < 2 ^ 62 := by
  unfold lim62 at h
  simp only [Bool.and_eq_true, decide_eq_true_eq] at h
  exact h
theorem rng1_inv {xs ys : List PyData} (h : rng1 xs = .ok ys) : ∃ j, xs = [.int j] ∧ lim62 j = true ∧ ys = rngD 0 j.toNat := by
  unfold rng1 at h
  split at h
  · split at h
    · cases h; exact ⟨_, rfl, by assumption, rfl⟩
    · cases h
  · cases h
theorem rng2_inv {xs ys : List PyData} (h : rng2 xs = .ok ys) : ∃ i j, xs = [.int i, .int j] ∧ lim62 i = true ∧ lim62 j = true ∧ ys = rngD i (j - i).toNat := by
  unfold rng2 at h
  split at h
  · split at h
    · rename_i hh
      cases h; exact ⟨_, _, rfl, hh.1, hh.2, rfl⟩
    · cases h
  · cases h
theorem rng1_ne : ∀ xs e, rng1 xs ≠ .exc e := fun xs e h => by
  unfold rng1 at h
  split at h
  · split at h <;> cases h
  · cases h
theorem rng2_ne : ∀ xs e, rng2 xs ≠ .exc e := fun xs e h => by
  unfold rng2 at h
  split at h
  · split at h <;> cases h
  · cases h
/-- the reading of a walked thing made of arguments -/
theorem iA_read {o : List PyData → Res (List PyData)} {fr : Sls → Res (List PyData × Sls)} {R : It → Hp → Prop} {k : List V → Hp → Prop} (ne : ∀ xs e, o xs ≠ .exc e) (h : tI K mg E (iA o fr) σ H R)
    (hk : ∀ xs ys vs F1 H1, o xs = .ok ys → RpA K F1 vs xs → Same F1 H1 → (∀ J, Walk K F1 J ys → R J H1) → k vs H1) : tA K mg E fr σ H k := by
  obtain ⟨F, S, Rs, q⟩ := h
  refine ⟨F, S, Rs, ?_⟩
  unfold iA at q
  cases ea : fr S with
  | bad => rw [ea] at q; exact q
  | exc e => rw [ea] at q; exact q
  | ok p =>
    obtain ⟨xs, S1⟩ := p
    rw [ea] at q
    intro vs F1 H1 A1 r1
    have q : OutI K mg E F H σ S R ((o xs).bind fun ys => .ok (ys, S1)) := q
    cases eo : o xs with
    | bad => rw [eo] at q; exact q.elim
    | exc e => exact absurd eo (ne xs e)
    | ok ys =>
      rw [eo] at q
      exact hk xs ys vs F1 H1 eo r1 A1.str.same fun J w => q J F1 H1 A1 w
theorem rpA1 {F : Hp} {vs : List V} {x : PyData} (r : RpA K F vs [x]) : ∃ v, vs = [v] ∧ Rp K F v x := by
  cases r with
  | cons r rr => cases rr; exact ⟨_, rfl, r⟩
theorem rpA2 {F : Hp} {vs : List V} {x y : PyData} (r : RpA K F vs [x, y]) : ∃ v w, vs = [v, w] ∧ Rp K F v x ∧ Rp K F w y := by
  cases r with
  | cons r rr =>
    obtain ⟨w, rfl, r2⟩ := rpA1 rr
    exact ⟨_, _, rfl, r, r2⟩
theorem rpA3 {F : Hp} {vs : List V} {x y z : PyData} (r : RpA K F vs [x, y, z]) : ∃ v w u, vs = [v, w, u] ∧ Rp K F v x ∧ Rp K F w y ∧ Rp K F u z := by
  cases r with
  | cons r rr =>
    obtain ⟨w, u, rfl, r2, r3⟩ := rpA2 rr
    exact ⟨_, _, _, rfl, r, r2, r3⟩
theorem rp_int {F : Hp} {v : V} {i : Int} (r : Rp K F v (.int i)) : v = .int i := by cases r; rfl
theorem pi_rng1 {tg a : Expr} {fr : Sls → Res (List PyData × Sls)} {n : Nat} {p pos : Pos} (hg : Gl X "range") (hm : X.mg "range" = none) (ha : PAn K mg E X [a] fr n) (hs : starEach [a] X.env = [(false, eval a X.env)] := by rfl) :
    PI X tg (.Call (.Name "range" p) [a] [] pos) (tI K mg E (iA rng1 fr)) := by
  refine (pi_range1 hg hm ha.pa hs).imp fun σ H R q => iA_read rng1_ne q fun xs ys vs F1 H1 eo r1 _ w => ?_
  obtain ⟨j, rfl, hl, rfl⟩ := rng1_inv eo
  obtain ⟨v, rfl, r⟩ := rpA1 r1
  cases rp_int r
  obtain ⟨h1, h2⟩ := lim62_of hl
  exact ⟨j, rfl, h1, h2, w _ walk_range⟩
theorem pi_rng2 {tg a b : Expr} {fr : Sls → Res (List PyData × Sls)} {n : Nat} {p pos : Pos} (hg : Gl X "range") (hm : X.mg "range" = none) (ha : PAn K mg E X [a, b] fr n) (hs : starEach [a, b] X.env = [(false, eval a X.env), (false, eval b X.env)] := by rfl) (hs2 : starEach [b] X.env = [(false, eval b X.env)] := by rfl) :
    PI X tg (.Call (.Name "range" p) [a, b] [] pos) (tI K mg E (iA rng2 fr)) := by
  refine (pi_range2 hg hm ha.pa hs hs2).imp fun σ H R q => iA_read rng2_ne q fun xs ys vs F1 H1 eo r1 _ w => ?_
  obtain ⟨i, j, rfl, hl, hl2, rfl⟩ := rng2_inv eo
  obtain ⟨v, u, rfl, r, r2⟩ := rpA2 r1
  cases rp_int r; cases rp_int r2
  obtain ⟨h1, h2⟩ := lim62_of hl
  obtain ⟨h3, h4⟩ := lim62_of hl2
  exact ⟨i, j, rfl, ⟨h1, h2, h3, h4⟩, w _ walk_range⟩
/-- pairs -/
def pairD : List PyData → List PyData → List PyData
  | x :: xs, y :: ys => .tuple [x, y] :: pairD xs ys
  | _, _ => []
theorem pairD_get : ∀ (xs ys : List PyData) (i : Nat), (pairD xs ys)[i]? = (xs[i]?).bind fun x => (ys[i]?).map fun y => .tuple [x, y]
  | [], ys, i => by simp [pairD]
  | x :: xs, [], i => by simp [pairD]
  | x :: xs, y :: ys, 0 => by simp [pairD]
  | x :: xs, y :: ys, i + 1 => by simpa [pairD] using pairD_get xs ys i
theorem pairD_len : ∀ (xs ys : List PyData), (pairD xs ys).length = min xs.length ys.length
  | [], ys => by simp [pairD]
  | x :: xs, [] => by simp [pairD]
  | x :: xs, y :: ys => by simp only [pairD, List.length_cons, pairD_len xs ys]; omega
def zipA : List PyData → Res (List PyData)
  | [.list xs, .list ys] => .ok (pairD xs ys)
  | [.tuple xs, .tuple ys] => .ok (pairD xs ys)
  | _ => .bad
theorem zipA_ne : ∀ xs e, zipA xs ≠ .exc e := fun xs e h => by
  unfold zipA at h
  split at h <;> cases h
theorem zipA_inv {xs ys : List PyData} (h : zipA xs = .ok ys) : (∃ a b, xs = [.list a, .list b] ∧ ys = pairD a b) ∨ ∃ a b, xs = [.tuple a, .tuple b] ∧ ys = pairD a b := by
  unfold zipA at h
  split at h
  · cases h; exact .inl ⟨_, _, rfl, rfl⟩
  · cases h; exact .inr ⟨_, _, rfl, rfl⟩
  · cases h
theorem walk_pair {J : It} {F0 : Hp} {as bs : List PyData} (hgo : ∀ i F H, Same F0 F → Same F H → ∀ d e, as[i]? = some d → bs[i]? = some e → J.go i H ∧ ∀ x H', J.yld i H x H' → ∃ T v w, x = V.ref T ∧ H T = none ∧ H' = upd H T (.tup [v, w]) ∧ Rp K F v d ∧ Rp K F w e)
    (hst : ∀ i F H, Same F0 F → Same F H → (as.length ≤ i ∨ bs.length ≤ i) → J.stop i H) : Walk K F0 J (pairD as bs) := fun i F H s1 s2 => by
  refine ⟨fun d hd => ?_, fun hl => ?_⟩
  · rw [pairD_get] at hd
    cases e1 : as[i]? with
    | none => rw [e1] at hd; cases hd
    | some x =>
      cases e2 : bs[i]? with
      | none => rw [e1, e2] at hd; cases hd
      | some y =>
        rw [e1, e2] at hd
        cases hd
        obtain ⟨g, yl⟩ := hgo i F H s1 s2 x y e1 e2
        refine ⟨g, fun z H' hy => ?_⟩
        obtain ⟨T, v, w, rfl, hT, rfl, r1, r2⟩ := yl z H' hy
        have u := Same.upd (o := .tup [v, w]) (s2.free hT)
        exact ⟨_, Grow.new s2 hT, .tup (.inl (.inl upd_same)) (.cons (r1.mono u) (.cons (r2.mono u) .nil))⟩
  · rw [pairD_len] at hl
    exact hst i F H s1 s2 (by omega)
theorem pi_zipD {elts : List Expr} {kk : Nat} {tpos p pos : Pos} {e e2 : Expr} {fr : Sls → Res (List PyData × Sls)} {n : Nat} (hK : X.K = K) (hg : Gl X "zip") (hm : X.mg "zip" = none) (ha : PAn K mg E X [e, e2] fr n)
    (hs : starEach [e, e2] X.env = (false, eval e X.env) :: starEach [e2] X.env := by rfl) (hpl : (backTo pos (starEach [e2] X.env)).any (·.1) = false := by rfl) :
    PI X (.Tuple elts kk tpos) (.Call (.Name "zip" p) [e, e2] [] pos) (tI K mg E (iA zipA fr)) := by
  subst hK
  refine (RZ.pi_zipA hg hm ha.pa hs hpl).imp fun σ H R q => iA_read zipA_ne q fun xs ys vs F1 H1 eo r1 s1 w => ?_
  rcases zipA_inv eo with ⟨as, bs, rfl, rfl⟩ | ⟨as, bs, rfl, rfl⟩
  · obtain ⟨v, u, rfl, r, r2⟩ := rpA2 r1
    cases r with
    | @lst a us _ hq hr =>
      cases r2 with
      | @lst b ws _ hq2 hr2 =>
        refine ⟨a, b, us, ws, rfl, .inl ⟨s1.seq (SqL.of hq), s1.seq (SqL.of hq2), w _ (walk_pair (fun i F H t1 t2 d e hd he => ?_) fun i F H t1 t2 hl => ?_)⟩⟩
        · have g1 : SqL X.K H a us := t2.seq (t1.seq (SqL.of hq))
          have g2 : SqL X.K H b ws := t2.seq (t1.seq (SqL.of hq2))
          obtain ⟨x, hx, rx⟩ := hr.get hd
          obtain ⟨y, hy, ry⟩ := hr2.get he
          refine ⟨⟨us, ws, x, y, g1, g2, hx, hy⟩, fun z H' hz => ?_⟩
          obtain ⟨T, x', y', rfl, hT, rfl, f1, f2⟩ := hz
          have e1 := f1 us g1
          have e2 := f2 ws g2
          rw [hx] at e1; cases e1
          rw [hy] at e2; cases e2
          exact ⟨T, _, _, rfl, hT, rfl, rx.mono t1, ry.mono t1⟩
        · exact ⟨us, ws, t2.seq (t1.seq (SqL.of hq)), t2.seq (t1.seq (SqL.of hq2)), by rw [hr.length, hr2.length]; exact hl⟩
  · obtain ⟨v, u, rfl, r, r2⟩ := rpA2 r1
    cases r with
    | @tup a us _ hq hr =>
      cases r2 with
      | @tup b ws _ hq2 hr2 =>
        refine ⟨a, b, us, ws, rfl, .inr ⟨Same.sqt s1 hq, Same.sqt s1 hq2, w _ (walk_pair (fun i F H t1 t2 d e hd he => ?_) fun i F H t1 t2 hl => ?_)⟩⟩
        · have g1 : SqT X.K H a us := Same.sqt t2 (Same.sqt t1 hq)
          have g2 : SqT X.K H b ws := Same.sqt t2 (Same.sqt t1 hq2)
          obtain ⟨x, hx, rx⟩ := hr.get hd
          obtain ⟨y, hy, ry⟩ := hr2.get he
          refine ⟨⟨us, ws, x, y, g1, g2, hx, hy⟩, fun z H' hz => ?_⟩
          obtain ⟨T, x', y', rfl, hT, rfl, f1, f2⟩ := hz
          have e1 := f1 us g1
          have e2 := f2 ws g2
          rw [hx] at e1; cases e1
          rw [hy] at e2; cases e2
          exact ⟨T, _, _, rfl, hT, rfl, rx.mono t1, ry.mono t1⟩
        · exact ⟨us, ws, Same.sqt t2 (Same.sqt t1 hq), Same.sqt t2 (Same.sqt t1 hq2), by rw [hr.length, hr2.length]; exact hl⟩
/-- enumerate -/
def enumF : Nat → List PyData → List PyData
  | _, [] => []
  | k, x :: xs => .tuple [.int (k : Nat), x] :: enumF (k + 1) xs
theorem enumF_get : ∀ (xs : List PyData) (k i : Nat), (enumF k xs)[i]? = (xs[i]?).map fun x => .tuple [.int ((k + i : Nat) : Int), x]
  | [], k, i => by simp [enumF]
  | x :: xs, k, 0 => by simp [enumF]
  | x :: xs, k, i + 1 => by
    have h := enumF_get xs (k + 1) i
    simp only [enumF, List.getElem?_cons_succ]
    rw [h]
    have e : k + 1 + i = k + (i + 1) := by omega
    rw [e]
theorem enumF_len : ∀ (xs : List PyData) (k : Nat), (enumF k xs).length = xs.length
  | [], _ => rfl
  | x :: xs, k => by rw [enumF, List.length_cons, enumF_len xs (k + 1), List.length_cons]
end
end PD

namespace PD
open PySem PySem.Spec PyProof.Rows L2

/-! ### defs that run where no repr is under way -/
structure FnG (Pr : Program) (w : World) (K : PySem.W.Frag) (mg : Str → Option Value) (base : Heap) (k : Nat) (f : Addr) (fd : FuncData) (ps : List Str) (sp : Sp) : Prop where
  many : ∀ vs H Q E, sp vs H Q E → vs.length = ps.length
  goes : ∀ (A : Around) (outer : List Env) (s : Shared) (H : Hp) (args : Args) (us : List Value) (vs : List V) (Q : VK) (E : XK), A.guards = some [] → Room k A → Env0 Pr w K mg base A outer s H → BindsTo s fd args (ps.zip us) → Vals vs us → sp vs H Q E →
    codeAny (model Pr w) A (.call (.ref f) args) (CR (L2.CX Pr w) outer Pr w H s Q E) s
theorem FnG.up {Pr : Program} {w : World} {K : PySem.W.Frag} {mg : Str → Option Value} {base : Heap} {j k : Nat} {f : Addr} {fd : FuncData} {ps : List Str} {sp : Sp} (G : FnG Pr w K mg base j f fd ps sp) (h : j ≤ k) : FnG Pr w K mg base k f fd ps sp :=
  ⟨G.many, fun A outer s H args us vs Q E g r => G.goes A outer s H args us vs Q E g (r.mono h)⟩
theorem fn_G {Pr : Program} {w : World} {K : PySem.W.Frag} {mg : Str → Option Value} {base : Heap} {x qual : Str} {st : Stmt} {f : Addr} {fd : FuncData} {N ps : List Str} {k : Nat} {sp : Sp} (Fn : Fun K x qual st f fd) (Sc : FnScope N ps (defScope st)) (hm : ∀ vs H Q E, sp vs H Q E → vs.length = ps.length)
    (hb : ∀ (cdv : Value) (A : Around) (outer : List Env) (s : Shared) (H : Hp) (vs : List V) (Q : VK) (E : XK), A.guards = some [] → Room k (A.deeper (envOfC qual (defScope st) s.heap.objs.size f cdv)) → sp vs H Q E →
      ∃ t, PSs (cxOf (L2.CX Pr w) Pr w K mg base N qual (defScope st) f cdv A outer s H E) (defBody st) t ∧ t { nx := fun _ H' => Q .non H', rt := Q } (L2.start N vs) H) : FnG Pr w K mg base (k + 1) f fd ps sp := by
  obtain ⟨oc, od, kV, doc, pm, an, cdv, ct, osl, rfl, lk, hc⟩ := Fn.ex
  refine ⟨hm, fun A outer s H args us vs Q E hg hr e0 hbi rv hsp => ?_⟩
  have hlen := hm _ _ _ _ hsp
  have inK : K.In s.heap := e0.mod.kin.keeps fun b o q => (e0.bs b o q).1
  have noL : s.heap.NoLimit := e0.mod.nolimit.keeps fun b o q => (e0.bs b o q).1
  have kinds : ∀ y ∈ ps.zip us, (defScope st).names.lookup y.1 = some .local ∨ ((defScope st).names.lookup y.1 = some .cell ∧ ((cellsFrom (s.heap.objs.size + 1) (defScope st).names []).lookup y.1).isSome = true) := by
    rintro ⟨n, v⟩ hy
    rcases Sc.par n (List.of_mem_zip hy).1 with z | z
    · exact .inl z
    · exact .inr ⟨z, PySem.W.cellsFrom_some _ _ _ (.inl z)⟩
  refine codeAny_call_function hr.depth (inK _ _ lk) rfl Sc.co Sc.gen rfl (PySem.W.codeRec_of inK hc) (hbi _ _ _ _ ?_)
  refine wpAny_newFunctionEnv_cells Sc.kind kinds fun env he s1 xx => ?_
  subst he
  refine ⟨noL.keeps xx.toInCall.keep, codeAny_func ?_⟩
  obtain ⟨t, ht, hq⟩ := hb cdv A outer s H vs Q E hg (hr.deeper _) hsp
  have J0 := inv_start (E := E) (CX := L2.CX Pr w) (cd := cdv) (qual := qual) (f := f) Sc hr.hd e0 hlen rv xx
  refine wpAny_mono (ht.run [] s1 (L2.start N vs) H _ J0 hq) (fun fl s' hs => ?_) fun e s' hs => hs
  cases fl with
  | ret u => obtain ⟨v, σ', H', J, r, q⟩ := hs; exact ⟨v, H', J.os, J.bare, J.base, J.hok, r, q⟩
  | next => obtain ⟨σ', H', J, q⟩ := hs; exact ⟨V.non, H', J.os, J.bare, J.base, J.hok, rfl, q⟩
  | brk => obtain ⟨_, _, _, q⟩ := hs; exact q.elim
  | cont => obtain ⟨_, _, _, q⟩ := hs; exact q.elim
section
variable {X : Cx} {k : Nat} {f : Addr} {fd : FuncData} {ps ks : List Str} {sp : Sp} {E : XK} {x : Str} {p pos : Pos} {e : Expr} {es : List Expr} {kws : List Keyword} {t tk : TA}
theorem go_G {pins : List (Addr × Obj)} {σ : Sg} {H : Hp} {s : Shared} {Q : VK} {us : List Value} {vs : List V} (G : FnG X.prog X.w X.K X.mg X.base k f fd ps sp) (hg : X.A.guards = some []) (hr : Room k X.A) (hb : Binds X.K fd ps []) (hx : Passes (L2.CX X.prog X.w) X E)
    (I : Inv X pins σ H s) (rv : Vals vs us) (h : sp vs H Q E) : wpAny (model X.prog X.w) X.A (call (.ref f) us) (EP X pins σ Q) X.xe s := by
  have hl : (us ++ []).length = ps.length := by rw [List.append_nil, ← rv.length]; exact G.many _ _ _ _ h
  have hbi := hb s us I.kIn hl
  rw [List.append_nil] at hbi
  refine wpAny_call (codeAny_mono (G.goes X.A X.stack s H ⟨us, []⟩ us vs Q E hg hr I.env0 hbi rv h) fun r s' hq => ?_)
  cases r with
  | error e => exact hx pins σ H s e s' I hq
  | ok fl => cases fl with
    | ret u => exact I.after hq
    | _ => exact hq.elim
theorem pe_callG (G : FnG X.prog X.w X.K X.mg X.base k f fd ps sp) (hgd : X.A.guards = some []) (hr : Room k X.A) (hg : Gl X x) (hm : X.mg x = some (.ref f)) (hk : PySem.W.keepIn X.K (.ref f) = true) (hb : Binds X.K fd ps []) (hx : Passes (L2.CX X.prog X.w) X E)
    (ha : PA X (e :: es) t) (hdb : (x == ("__debug__" : Str)) = false) (he : starEach (e :: es) X.env = (false, eval e X.env) :: starEach es X.env) (hpl : (backTo pos (starEach es X.env)).any (·.1) = false) :
    PE X (.Call (.Name x p) (e :: es) [] pos) (tCall sp [] E t) := by
  refine ⟨fun pins s σ H Q I h => wpAny_Call_Name_kw (ld_glob I hg hm (PySem.W.callWith_K (h₀ := X.base) I.ok.mod.kin hk (thn (ha.run pos pins s σ H _ I h) fun us s1 z => ?_) he hpl) hdb)⟩
  obtain ⟨vs, H1, I1, r, q⟩ := z
  rw [List.append_nil] at q
  exact ⟨I1.kIn, go_G G hgd hr hb hx I1 r q⟩
/-- keywords: how the written arguments stand in the parameters' order -/
theorem pe_callKG {g : List Value → List Value → List Value} {gV : List V → List V → List V} (G : FnG X.prog X.w X.K X.mg X.base k f fd ps sp) (hgd : X.A.guards = some []) (hr : Room k X.A) (hg : Gl X x) (hm : X.mg x = some (.ref f)) (hk : PySem.W.keepIn X.K (.ref f) = true) (hb : KBinds X.K fd ps ks g gV) (hx : Passes (L2.CX X.prog X.w) X E)
    (ha : PA X (e :: es) t) (hkw : PK X kws tk) (hall : (backToKw pos (keywordEach kws X.env)).all (·.1.isSome) = true) (hks : (backToKw pos (keywordEach kws X.env)).filterMap (·.1) = ks) (hdb : (x == ("__debug__" : Str)) = false)
    (he : starEach (e :: es) X.env = (false, eval e X.env) :: starEach es X.env) (hpl : ((backTo pos (starEach (e :: es) X.env)).any (·.1) || (backToKw pos (keywordEach kws X.env)).any (·.1.isNone)) = false) :
    PE X (.Call (.Name x p) (e :: es) kws pos) (tCallK sp gV E t tk) := by
  refine ⟨fun pins s σ H Q I h => wpAny_Call_Name_kw (ld_glob I hg hm (PySem.W.callWith_KW (h₀ := X.base) I.ok.mod.kin hk hall (thn (ha.run pos pins s σ H _ I h) fun us s1 z => ?_) hpl he) hdb)⟩
  obtain ⟨vs, H1, I1, r, q⟩ := z
  refine thn (hkw.run pos pins s1 σ H1 _ I1 q) fun ws s2 z2 => ?_
  obtain ⟨zs, H2, I2, rz, q2⟩ := z2
  refine ⟨I2.kIn, ?_⟩
  rw [hks]
  have r2 := hb.rel r rz
  have hl : (g us ws).length = ps.length := by rw [← r2.length]; exact G.many _ _ _ _ q2
  refine wpAny_call (codeAny_mono (G.goes X.A X.stack s2 H2 ⟨us, ks.zip ws⟩ (g us ws) (gV vs zs) Q E hgd hr I2.env0 (hb.to s2 us ws I2.kIn hl) r2 q2) fun r s' hq => ?_)
  cases r with
  | error e => exact hx pins σ H2 s2 e s' I2 hq
  | ok fl => cases fl with
    | ret u => exact I2.after hq
    | _ => exact hq.elim
end
end PD

namespace PD
open PySem PySem.Spec PyProof.Rows L2

/-! ### defs -/
abbrev Mir := Sls → Res (Sl × Sls)
/-- a def's promise: called so, it gives what its mirror gives -/
def spF (K : PySem.W.Frag) (mg : Str → Option Value) (n : Nat) (m : Mir) : Sp := fun vs H Q E => vs.length = n ∧ tV K mg E m (vs.map some) H Q
def unS (n : Nat) : Sls := List.replicate n .un
/-- the parameters' slots behind the body: those handed by reference as they are, the others forgotten -/
def outP (P : List Nat) (S : Sls) : Nat → Sls
  | 0 => []
  | n + 1 => outP P S n ++ [if n ∈ P then S.getD n .un else .un]
def mFn (P : List Nat) (nLoc nPar : Nat) (g : Sls → Res (Fl × Sls)) : Mir := fun as =>
  (g (as ++ unS (nLoc - nPar))).bind fun p => match p.1 with
    | .ret x => .ok (x, outP P p.2 nPar)
    | .next => .ok (.d .none, outP P p.2 nPar)
    | _ => .bad
theorem outP_len (P : List Nat) (S : Sls) : ∀ n, (outP P S n).length = n
  | 0 => rfl
  | n + 1 => by rw [outP, List.length_append, outP_len P S n]; rfl
theorem outP_get (P : List Nat) (S : Sls) : ∀ {n i : Nat}, i < n → (outP P S n)[i]? = some (if i ∈ P then S.getD i .un else .un)
  | n + 1, i, h => by
    rw [outP]
    by_cases e : i = n
    · subst e
      rw [List.getElem?_append_right (by rw [outP_len]; exact Nat.le_refl _), outP_len, Nat.sub_self]
      rfl
    · have h2 : i < n := by omega
      rw [List.getElem?_append_left (by rw [outP_len]; exact h2)]
      exact outP_get P S h2
section
variable {K : PySem.W.Frag} {mg : Str → Option Value} {E : XK} {P : List Nat} {X : Cx} {F H F' H' : Hp} {σ : Sg} {S S' : Sls}
theorem StR.args {vs : List V} {N : List Str} (R : StR K F H (vs.map some) S) : StR K F H (start N vs) (S ++ unS (N.length - vs.length)) := by
  have hl : vs.length = S.length := by have := R.len; rwa [List.length_map] at this
  have out : ∀ i x, vs.length ≤ i → (S ++ unS (N.length - vs.length))[i]? = some x → x = .un := fun i x h e => by
    rw [List.getElem?_append_right (by omega)] at e
    unfold unS at e
    rw [List.getElem?_replicate] at e
    split at e
    · cases e; rfl
    · cases e
  have inn : ∀ i x, i < vs.length → (S ++ unS (N.length - vs.length))[i]? = some x → S[i]? = some x := fun i x h e => by
    rw [List.getElem?_append_left (by omega)] at e; exact e
  have inσ : ∀ i o, i < vs.length → (start N vs)[i]? = some o → (vs.map some)[i]? = some o := fun i o h e => by
    unfold L2.start at e
    rw [List.getElem?_append_left (by rw [List.length_map]; exact h)] at e; exact e
  refine ⟨R.same, ?_, fun i o x h1 h2 => ?_, fun i j o p x y a h1 h2 h3 h4 o1 o2 => ?_⟩
  · unfold L2.start unS
    simp only [List.length_append, List.length_map, List.length_replicate]; omega
  · by_cases hi : i < vs.length
    · exact R.sl i o x (inσ i o hi h1) (inn i x hi h2)
    · rw [out i x (by omega) h2]; trivial
  · by_cases hi : i < vs.length
    · by_cases hj : j < vs.length
      · exact R.dis i j o p x y a (inσ i o hi h1) (inn i x hi h2) (inσ j p hj h3) (inn j y hj h4) o1 o2
      · rw [out j y (by omega) h4, ow_un] at o2; cases o2
    · rw [out i x (by omega) h2, ow_un] at o1; cases o1
theorem Own.args {vs : List V} {N : List Str} {a : Addr} (R : StR K F H (vs.map some) S) (h : Own (start N vs) (S ++ unS (N.length - vs.length)) a) : Own (vs.map some) S a := by
  have hl : vs.length = S.length := by have := R.len; rwa [List.length_map] at this
  obtain ⟨i, o, x, h1, h2, h3⟩ := h
  by_cases hi : i < vs.length
  · refine ⟨i, o, x, ?_, ?_, h3⟩
    · unfold L2.start at h1
      rw [List.getElem?_append_left (by rw [List.length_map]; exact hi)] at h1; exact h1
    · rw [List.getElem?_append_left (by omega)] at h2; exact h2
  · exfalso
    rw [List.getElem?_append_right (by omega)] at h2
    unfold unS at h2
    rw [List.getElem?_replicate] at h2
    split at h2
    · cases h2; rw [ow_un] at h3; cases h3
    · cases h2
/-- behind the body: the parameters' slots again -/
theorem Aft.args {vs : List V} {N : List Str} {σ' : Sg} (hn : vs.length ≤ N.length) (hP : ∀ i ∈ P, i < vs.length) (R : StR K F H (vs.map some) S) (A : Aft K P F H (start N vs) (S ++ unS (N.length - vs.length)) F' H' σ' S') :
    Aft K [] F H (vs.map some) S F' H' (vs.map some) (outP P S' vs.length) ∧ ∀ a, Own (vs.map some) (outP P S' vs.length) a → Own σ' S' a := by
  have hl : vs.length = S.length := by have := R.len; rwa [List.length_map] at this
  have hs : (start N vs).length = N.length := by unfold L2.start; simp only [List.length_append, List.length_map, List.length_replicate]; omega
  have σP : ∀ i ∈ P, σ'[i]? = (vs.map some)[i]? := fun i hi => by
    rw [A.keep i hi]
    unfold L2.start
    rw [List.getElem?_append_left (by rw [List.length_map]; exact hP i hi)]
  have key : ∀ i o x, (vs.map some)[i]? = some o → (outP P S' vs.length)[i]? = some x → x = .un ∨ (i ∈ P ∧ σ'[i]? = some o ∧ S'[i]? = some x) := fun i o x h1 h2 => by
    have hi : i < vs.length := by
      have := (List.getElem?_eq_some_iff.mp h1).1
      rwa [List.length_map] at this
    rw [outP_get P S' hi] at h2
    by_cases hp : i ∈ P
    · rw [if_pos hp] at h2
      have hS : i < S'.length := by
        have h3 := A.str.len
        have h4 := A.len
        omega
      cases h2
      refine .inr ⟨hp, by rw [σP i hp]; exact h1, ?_⟩
      rw [List.getD_eq_getElem?_getD, List.getElem?_eq_getElem hS]; rfl
    · rw [if_neg hp] at h2; cases h2; exact .inl rfl
  have own' : ∀ a, Own (vs.map some) (outP P S' vs.length) a → Own σ' S' a := fun a ⟨i, o, x, h1, h2, h3⟩ => by
    rcases key i o x h1 h2 with rfl | ⟨_, e1, e2⟩
    · rw [ow_un] at h3; cases h3
    · exact ⟨i, o, x, e1, e2, h3⟩
  refine ⟨⟨A.ext.weak fun a h => Own.args R h, ⟨A.str.same, by rw [outP_len, List.length_map], fun i o x h1 h2 => ?_, fun i j o p x y a h1 h2 h3 h4 o1 o2 => ?_⟩, fun a h => ?_, fun _ h => (nomatch h), rfl⟩, own'⟩
  · rcases key i o x h1 h2 with rfl | ⟨_, e1, e2⟩
    · trivial
    · exact A.str.sl i o x e1 e2
  · rcases key i o x h1 h2 with rfl | ⟨_, e1, e2⟩
    · rw [ow_un] at o1; cases o1
    · rcases key j p y h3 h4 with rfl | ⟨_, e3, e4⟩
      · rw [ow_un] at o2; cases o2
      · exact A.str.dis i j o p x y a e1 e2 e3 e4 o1 o2
  · rcases A.own a (own' a h) with z | z
    · exact .inl (Own.args R z)
    · exact .inr z
/-- THE RULE for a def -/
theorem fn_D {Pr : Program} {w : World} {base : Heap} {x qual : Str} {st : Stmt} {f : Addr} {fd : FuncData} {N ps : List Str} {k : Nat} {g : Sls → Res (Fl × Sls)} (Fn : Fun K x qual st f fd) (Sc : FnScope N ps (defScope st)) (hP : ∀ i ∈ P, i < ps.length) (hn : ps.length ≤ N.length)
    (hbody : ∀ (cdv : Value) (A : Around) (outer : List Env) (s : Shared) (H : Hp) (E : XK), A.guards = some [] → Room k (A.deeper (envOfC qual (defScope st) s.heap.objs.size f cdv)) →
      PSs (cxOf (L2.CX Pr w) Pr w K mg base N qual (defScope st) f cdv A outer s H E) (defBody st) (tS K mg E P g)) : FnG Pr w K mg base (k + 1) f fd ps (spF K mg ps.length (mFn P N.length ps.length g)) := by
  refine fn_G Fn Sc (fun vs H Q E h => h.1) (fun cdv A outer s H vs Q E hgd hr h => ⟨_, hbody cdv A outer s H E hgd hr, ?_⟩)
  obtain ⟨hl, F, S, R, q⟩ := h
  refine ⟨F, S ++ unS (N.length - vs.length), R.args, ?_⟩
  unfold mFn at q
  rw [← hl] at q
  have hPv : ∀ i ∈ P, i < vs.length := fun i hi => by rw [hl]; exact hP i hi
  have hnv : vs.length ≤ N.length := by rw [hl]; exact hn
  cases eg : g (S ++ unS (N.length - vs.length)) with
  | bad => rw [eg] at q; exact q.elim
  | exc e => rw [eg] at q; exact fun C d F1 H1 m x s' xd => q C d F1 H1 m (x.weak fun a h => Own.args R h) s' xd
  | ok p =>
    obtain ⟨fl, S'⟩ := p
    rw [eg] at q
    have fin : ∀ v x σ' F1 H1, Aft K P F H (start N vs) (S ++ unS (N.length - vs.length)) F1 H1 σ' S' → Val K F H (start N vs) (S ++ unS (N.length - vs.length)) F1 H1 σ' S' v x → OutV K mg E F H (vs.map some) S Q (.ok (x, outP P S' vs.length)) → Q v H1 := fun v x σ' F1 H1 A r q => by
      obtain ⟨A2, o2⟩ := A.args hnv hPv R
      exact q v F1 H1 A2 ⟨r.sl, fun a ha => ⟨fun z => (r.own a ha).1 (o2 a z), (r.own a ha).2.imp (Own.args R) id⟩⟩
    cases fl with
    | next => exact fun σ' F1 H1 A => fin .non (.d .none) σ' F1 H1 A (.d .non) q
    | ret x => exact fun v σ' F1 H1 A r => fin v x σ' F1 H1 A r q
    | brk => exact q.elim
    | cont => exact q.elim

/-! ### calls of defs -/
def eCall0 (m : Mir) (fr : Sls → Res (List PyData × Sls)) : Sls → Res (Sl × Sls) := fun S => (fr S).bind fun p => (m (p.1.map Sl.d)).bind fun r => .ok (r.1, p.2)
theorem StR.data {vs : List V} {ds : List PyData} (s : Same F H) (r : RpA K F vs ds) : StR K F H (vs.map some) (ds.map Sl.d) := by
  refine ⟨s, by rw [List.length_map, List.length_map, r.length], fun i o x h1 h2 => ?_, fun i j o p x y a h1 h2 h3 h4 o1 o2 => ?_⟩
  · rw [List.getElem?_map] at h1 h2
    cases e : ds[i]? with
    | none => rw [e] at h2; cases h2
    | some d =>
      rw [e] at h2; cases h2
      obtain ⟨v, hv, rv⟩ := r.get e
      rw [hv] at h1; cases h1
      exact ⟨v, rfl, rv⟩
  · rw [List.getElem?_map] at h2
    cases e : ds[i]? with
    | none => rw [e] at h2; cases h2
    | some d => rw [e] at h2; cases h2; rw [ow_d] at o1; cases o1
theorem Own.data {vs : List V} {ds : List PyData} {a : Addr} (h : Own (vs.map some) (ds.map Sl.d) a) : False := by
  obtain ⟨i, o, x, h1, h2, h3⟩ := h
  rw [List.getElem?_map] at h2
  cases e : ds[i]? with
  | none => rw [e] at h2; cases h2
  | some d => rw [e] at h2; cases h2; rw [ow_d] at h3; cases h3
theorem call0_read {m : Mir} {fr : Sls → Res (List PyData × Sls)} {n : Nat} (hn : ∀ S p, fr S = .ok p → p.1.length = n) {Q : VK} (h : tV K mg E (eCall0 m fr) σ H Q) : tA K mg E fr σ H fun vs H1 => spF K mg n m (vs ++ []) H1 Q E := by
  obtain ⟨F, S, R, q⟩ := h
  refine ⟨F, S, R, ?_⟩
  unfold eCall0 at q
  cases ea : fr S with
  | bad => rw [ea] at q; exact q
  | exc e => rw [ea] at q; exact q
  | ok p =>
    obtain ⟨ds, S1⟩ := p
    rw [ea] at q
    intro vs F1 H1 A1 r1
    rw [List.append_nil]
    refine ⟨by rw [r1.length]; exact hn _ _ ea, F1, ds.map Sl.d, .data A1.str.same r1, ?_⟩
    have q : OutV K mg E F H σ S Q ((m (ds.map Sl.d)).bind fun r => .ok (r.1, S1)) := q
    cases em : m (ds.map Sl.d) with
    | bad => rw [em] at q; exact q.elim
    | exc e => rw [em] at q; exact fun C d F2 H2 mm x s xd => (ExR.later q A1) C d F2 H2 mm (x.weak fun a z => (Own.data z).elim) s xd
    | ok p =>
      obtain ⟨x, S2⟩ := p
      rw [em] at q
      intro v F2 H2 A2 r2
      have g : Grow F1 H1 F2 H2 := ⟨⟨A2.ext.ff, fun b o e _ => A2.ext.fr b o e fun z => Own.data z, A2.ext.nn, fun b e => (A2.ext.nf b e).imp id (Or.imp id fun z => (Own.data z).elim)⟩, A2.str.same⟩
      refine q v F2 H2 (A1.trans (Aft.grow A1.str g)) ((Val.put A1.str g r2.sl fun a ha => ?_).earlier A1)
      rcases (r2.own a ha).2 with z | z
      · exact (Own.data z).elim
      · exact z
/-- f(pot, ..): the list in the slot i is handed by reference -/
def putR (i : Nat) (S : Sls) : Sl × Sls → Res (Sl × Sls)
  | (x, .ol ys :: _) => .ok (x, S.set i (.ol ys))
  | _ => .bad
theorem putR_inv {i : Nat} {S : Sls} {x : Sl} {T : Sls} {r : Res (Sl × Sls)} (h : putR i S (x, T) = r) : (∃ ys U, T = .ol ys :: U ∧ r = .ok (x, S.set i (.ol ys))) ∨ r = .bad := by
  unfold putR at h
  split at h
  · rename_i e; cases e; exact .inl ⟨_, _, rfl, h.symm⟩
  · exact .inr h.symm
def eCallR (i : Nat) (m : Mir) (fr : Sls → Res (List PyData × Sls)) : Sls → Res (Sl × Sls) := fun S =>
  match S[i]? with
  | some (.ol _) => (fr S).bind fun p => match p.2[i]? with
    | some (.ol xs) => (m (.ol xs :: p.1.map Sl.d)).bind (putR i p.2)
    | _ => .bad
  | _ => .bad
theorem callR_read {i : Nat} {m : Mir} {fr : Sls → Res (List PyData × Sls)} {n : Nat} (hn : ∀ S p, fr S = .ok p → p.1.length = n) {Q : VK} (h : tV K mg E (eCallR i m fr) σ H Q) :
    tVar i σ H fun u H0 => tA K mg E fr σ H0 fun vs H1 => spF K mg (n + 1) m ((u :: vs) ++ []) H1 Q E := by
  obtain ⟨F, S, R, q⟩ := h
  unfold eCallR at q
  cases es : S[i]? with
  | none => rw [es] at q; exact q.elim
  | some x =>
    rw [es] at q
    obtain ⟨p, hp, sl⟩ := R.at es
    cases x with
    | un => exact q.elim
    | d y => exact q.elim
    | od y => exact q.elim
    | sc y => exact q.elim
    | ol xs0 =>
      obtain ⟨a, us0, rfl, _⟩ := id sl
      refine ⟨_, hp, F, S, R, ?_⟩
      simp only at q
      cases ea : fr S with
      | bad => rw [ea] at q; exact q
      | exc e => rw [ea] at q; exact q
      | ok p =>
        obtain ⟨ds, S1⟩ := p
        rw [ea] at q
        intro vs F1 H1 A1 r1
        rw [List.append_nil]
        refine ⟨by rw [List.length_cons, r1.length, hn _ _ ea], ?_⟩
        have q : OutV K mg E F H σ S Q (match S1[i]? with
          | some (.ol xs) => (m (.ol xs :: ds.map Sl.d)).bind (putR i S1)
          | _ => .bad) := q
        cases e1 : S1[i]? with
        | none => rw [e1] at q; exact q.elim
        | some y =>
          rw [e1] at q
          cases y with
          | un => exact q.elim
          | d z => exact q.elim
          | od z => exact q.elim
          | sc z => exact q.elim
          | ol xs =>
            simp only at q
            have sl1 := A1.str.sl i _ _ hp e1
            obtain ⟨b, us, eb, h1, h2, rus⟩ := id sl1
            cases eb
            have RA : StR K F1 H1 ((V.ref a :: vs).map some) (Sl.ol xs :: ds.map Sl.d) := by
              have RD := StR.data A1.str.same r1
              refine ⟨A1.str.same, by simp [r1.length], fun j o y g1 g2 => ?_, fun j k o p y z c g1 g2 g3 g4 o1 o2 => ?_⟩
              · cases j with
                | zero => cases g1; cases g2; exact sl1
                | succ j => exact RD.sl j o y (by simpa using g1) (by simpa using g2)
              · cases j with
                | zero =>
                  cases k with
                  | zero => rfl
                  | succ k => exact absurd ⟨k, p, z, (by simpa using g3), (by simpa using g4), o2⟩ (fun w => Own.data w)
                | succ j => exact absurd ⟨j, o, y, (by simpa using g1), (by simpa using g2), o1⟩ (fun w => Own.data w)
            have ownA : ∀ c, Own ((V.ref a :: vs).map some) (Sl.ol xs :: ds.map Sl.d) c → c = a := fun c ⟨j, o, y, g1, g2, g3⟩ => by
              cases j with
              | zero => cases g1; cases g2; cases g3; rfl
              | succ j => exact (Own.data ⟨j, o, y, (by simpa using g1), (by simpa using g2), g3⟩).elim
            have ownI : Own σ S1 a := ⟨i, _, _, hp, e1, rfl⟩
            refine ⟨F1, Sl.ol xs :: ds.map Sl.d, RA, ?_⟩
            cases em : m (.ol xs :: ds.map Sl.d) with
            | bad => rw [em] at q; exact q.elim
            | exc e => rw [em] at q; exact fun C d F2 H2 mm x s xd => (ExR.later q A1) C d F2 H2 mm (x.weak fun c z => by rw [ownA c z]; exact ownI) s xd
            | ok pr =>
              obtain ⟨x, S2⟩ := pr
              rw [em] at q
              intro v F2 H2 A2 r2
              have q : OutV K mg E F H σ S Q (putR i S1 (x, S2)) := q
              generalize hpr : putR i S1 (x, S2) = rr at q
              rcases putR_inv hpr with ⟨ys, T, rfl, rfl⟩ | rfl
              case inr => exact q.elim
              case inl =>
                have sl2 := A2.str.sl 0 (some (V.ref a)) (.ol ys) rfl rfl
                obtain ⟨c, us2, ec, k1, k2, k3⟩ := id sl2
                cases ec
                have ext : Ext (Own σ S1) F1 H1 F2 H2 := A2.ext.weak fun c z => by rw [ownA c z]; exact ownI
                have other : ∀ j o y c, j ≠ i → σ[j]? = some o → S1[j]? = some y → ow o y = some c → c ≠ a := fun j o y c hj g1 g2 g3 z => by
                  subst z
                  exact hj (A1.str.dis j i o _ y _ c g1 g2 hp e1 g3 rfl)
                have R3 : StR K F2 H2 σ (S1.set i (.ol ys)) := by
                  refine ⟨A2.str.same, by rw [List.length_set]; exact A1.str.len, fun j o y g1 g2 => ?_, fun j k o p y z c g1 g2 g3 g4 o1 o2 => ?_⟩
                  · rcases get_set g2 with ⟨rfl, rfl⟩ | ⟨ne, g2⟩
                    · rw [hp] at g1; cases g1; exact sl2
                    · have sl3 := A1.str.sl j o y g1 g2
                      cases y with
                      | un => trivial
                      | d x => obtain ⟨v, e, r⟩ := sl3; exact ⟨v, e, r.mono A2.ext.ff⟩
                      | sc ns => obtain ⟨c, e, r⟩ := sl3; exact ⟨c, e, A2.ext.ff.seq r⟩
                      | ol zs =>
                        obtain ⟨c, ws, rfl, f1, f2, f3⟩ := sl3
                        have nc : c ≠ a := other j _ _ c (Ne.symm ne) g1 g2 rfl
                        have no : ¬ Own ((V.ref a :: vs).map some) (Sl.ol xs :: ds.map Sl.d) c := fun z => nc (ownA c z)
                        refine ⟨c, ws, rfl, ?_, A2.ext.fr _ _ f2 no, f3.mono A2.ext.ff⟩
                        cases w : F2 c with
                        | none => rfl
                        | some o =>
                          rcases A2.ext.nf c (by rw [w]; simp) with z | z | z
                          · exact absurd f1 z
                          · rw [f2] at z; cases z
                          · exact absurd z no
                      | od zs =>
                        obtain ⟨c, u, ps, rfl, f1, f2, f3, f4, f5⟩ := sl3
                        have nc : c ≠ a := other j _ _ c (Ne.symm ne) g1 g2 rfl
                        have no : ¬ Own ((V.ref a :: vs).map some) (Sl.ol xs :: ds.map Sl.d) c := fun z => nc (ownA c z)
                        refine ⟨c, u, ps, rfl, ?_, A2.ext.fr _ _ f2 no, f3, f4, f5.mono A2.ext.ff⟩
                        cases w : F2 c with
                        | none => rfl
                        | some o =>
                          rcases A2.ext.nf c (by rw [w]; simp) with z | z | z
                          · exact absurd f1 z
                          · rw [f2] at z; cases z
                          · exact absurd z no
                  · rcases get_set g2 with ⟨rfl, rfl⟩ | ⟨ne, g2'⟩
                    · rcases get_set g4 with ⟨rfl, rfl⟩ | ⟨ne', g4⟩
                      · rfl
                      · rw [hp] at g1; cases g1; cases o1
                        exact absurd rfl (other k p z _ (Ne.symm ne') g3 g4 o2)
                    · rcases get_set g4 with ⟨rfl, rfl⟩ | ⟨ne', g4⟩
                      · rw [hp] at g3; cases g3; cases o2
                        exact absurd rfl (other j o y _ (Ne.symm ne) g1 g2' o1)
                      · exact A1.str.dis j k o p y z c g1 g2' g3 g4 o1 o2
                have own3 : ∀ c, Own σ (S1.set i (.ol ys)) c → Own σ S1 c := fun c ⟨j, o, y, g1, g2, g3⟩ => by
                  rcases get_set g2 with ⟨rfl, rfl⟩ | ⟨ne, g2⟩
                  · rw [hp] at g1; cases g1; cases g3; exact ownI
                  · exact ⟨j, o, y, g1, g2, g3⟩
                have A3 : Aft K [] F1 H1 σ S1 F2 H2 σ (S1.set i (.ol ys)) := ⟨ext, R3, fun c z => .inl (own3 c z), fun _ h => (nomatch h), rfl⟩
                refine q v F2 H2 (A1.trans A3) (Val.earlier A1 ⟨r2.sl, fun c hc => ?_⟩)
                have oc := r2.own c hc
                have na : c ≠ a := fun z => oc.1 ⟨0, some (V.ref a), .ol ys, rfl, rfl, by rw [z]; rfl⟩
                have fresh : H1 c = none := by
                  rcases oc.2 with z | z
                  · exact absurd (ownA c z) na
                  · exact z
                exact ⟨fun z => (A1.str.own_none (own3 c z)).2 fresh, .inr fresh⟩
end
section
variable {K : PySem.W.Frag} {mg : Str → Option Value} {E : XK} {P : List Nat} {X : Cx} {F H F' H' : Hp} {σ : Sg} {S S' : Sls}
/-- f(script, ..) -/
def eCallS (i : Nat) (m : Mir) (fr : Sls → Res (List PyData × Sls)) : Sls → Res (Sl × Sls) := fun S =>
  match S[i]? with
  | some (.sc ns) => (fr S).bind fun p => (m (.sc ns :: p.1.map Sl.d)).bind fun r => .ok (r.1, p.2)
  | _ => .bad
theorem callS_read {i : Nat} {m : Mir} {fr : Sls → Res (List PyData × Sls)} {n : Nat} (hn : ∀ S p, fr S = .ok p → p.1.length = n) {Q : VK} (h : tV K mg E (eCallS i m fr) σ H Q) :
    tVar i σ H fun u H0 => tA K mg E fr σ H0 fun vs H1 => spF K mg (n + 1) m ((u :: vs) ++ []) H1 Q E := by
  obtain ⟨F, S, R, q⟩ := h
  unfold eCallS at q
  cases es : S[i]? with
  | none => rw [es] at q; exact q.elim
  | some x =>
    rw [es] at q
    obtain ⟨p, hp, sl⟩ := R.at es
    cases x with
    | un => exact q.elim
    | d y => exact q.elim
    | od y => exact q.elim
    | ol y => exact q.elim
    | sc ns =>
      obtain ⟨a, rfl, ha⟩ := id sl
      refine ⟨_, hp, F, S, R, ?_⟩
      simp only at q
      cases ea : fr S with
      | bad => rw [ea] at q; exact q
      | exc e => rw [ea] at q; exact q
      | ok p =>
        obtain ⟨ds, S1⟩ := p
        rw [ea] at q
        intro vs F1 H1 A1 r1
        rw [List.append_nil]
        refine ⟨by rw [List.length_cons, r1.length, hn _ _ ea], ?_⟩
        have RD := StR.data A1.str.same r1
        have noO : ∀ c, ¬ Own ((V.ref a :: vs).map some) (Sl.sc ns :: ds.map Sl.d) c := fun c ⟨j, o, y, g1, g2, g3⟩ => by
          cases j with
          | zero => cases g1; cases g2; cases g3
          | succ j => exact Own.data ⟨j, o, y, (by simpa using g1), (by simpa using g2), g3⟩
        have RA : StR K F1 H1 ((V.ref a :: vs).map some) (Sl.sc ns :: ds.map Sl.d) := by
          refine ⟨A1.str.same, by simp [r1.length], fun j o y g1 g2 => ?_, fun j k o p y z c g1 g2 g3 g4 o1 o2 => ?_⟩
          · cases j with
            | zero => cases g1; cases g2; exact ⟨a, rfl, A1.ext.ff.seq ha⟩
            | succ j => exact RD.sl j o y (by simpa using g1) (by simpa using g2)
          · exact absurd ⟨j, o, y, g1, g2, o1⟩ (noO c)
        refine ⟨F1, Sl.sc ns :: ds.map Sl.d, RA, ?_⟩
        have q : OutV K mg E F H σ S Q ((m (.sc ns :: ds.map Sl.d)).bind fun r => .ok (r.1, S1)) := q
        cases em : m (.sc ns :: ds.map Sl.d) with
        | bad => rw [em] at q; exact q.elim
        | exc e => rw [em] at q; exact fun C d F2 H2 mm x s xd => (ExR.later q A1) C d F2 H2 mm (x.weak fun c z => (noO c z).elim) s xd
        | ok pr =>
          obtain ⟨x, S2⟩ := pr
          rw [em] at q
          intro v F2 H2 A2 r2
          have g : Grow F1 H1 F2 H2 := ⟨⟨A2.ext.ff, fun b o e _ => A2.ext.fr b o e (noO b), A2.ext.nn, fun b e => (A2.ext.nf b e).imp id (Or.imp id fun z => (noO b z).elim)⟩, A2.str.same⟩
          refine q v F2 H2 (A1.trans (Aft.grow A1.str g)) ((Val.put A1.str g r2.sl fun c hc => ?_).earlier A1)
          rcases (r2.own c hc).2 with z | z
          · exact (noO c z).elim
          · exact z
end
/-- a def of the text, with its promise -/
structure Ok (Pr : Program) (w : World) (K : PySem.W.Frag) (mg : Str → Option Value) (base : Heap) (k : Nat) (x : Str) (ps : List Str) (m : Mir) : Prop where
  ex : ∃ (f : Addr) (fd : FuncData), mg x = some (.ref f) ∧ PySem.W.keepIn K (.ref f) = true ∧ Binds K fd ps [] ∧ FnG Pr w K mg base k f fd ps (spF K mg ps.length m)
section
variable {E : XK} {P : List Nat} {X : Cx} {m : Mir} {x : Str} {ps : List Str} {k : Nat} {fr : Sls → Res (List PyData × Sls)} {n : Nat} {e : Expr} {es : List Expr} {p pos : Pos}
theorem pe_call0D (O : Ok X.prog X.w X.K X.mg X.base k x ps m) (hgd : X.A.guards = some []) (hr : Room k X.A) (hg : Gl X x) (hx : Passes (L2.CX X.prog X.w) X E) (ha : PAn X.K X.mg E X (e :: es) fr n) (hn : n = ps.length := by rfl)
    (hdb : (x == ("__debug__" : Str)) = false := by decide) (he : starEach (e :: es) X.env = (false, eval e X.env) :: starEach es X.env := by rfl) (hpl : (backTo pos (starEach es X.env)).any (·.1) = false := by rfl) :
    PE X (.Call (.Name x p) (e :: es) [] pos) (tV X.K X.mg E (eCall0 m fr)) := by
  obtain ⟨f, fd, hm, hk, hb, Fo⟩ := O.ex
  subst hn
  exact (pe_callG Fo hgd hr hg hm hk hb hx ha.pa hdb he hpl).imp fun σ H Q h => call0_read ha.len h
theorem pe_callRD {i : Nat} {y : Str} {py : Pos} (O : Ok X.prog X.w X.K X.mg X.base k x ps m) (hgd : X.A.guards = some []) (hr : Room k X.A) (hg : Gl X x) (hx : Passes (L2.CX X.prog X.w) X E) (hv : PE X (.Name y py) (tVar i)) (ha : PAn X.K X.mg E X es fr n) (hn : n + 1 = ps.length := by rfl)
    (hs : starEach (.Name y py :: es) X.env = (false, eval (.Name y py) X.env) :: starEach es X.env := by rfl)
    (hdb : (x == ("__debug__" : Str)) = false := by decide) (hpl : (backTo pos (starEach es X.env)).any (·.1) = false := by rfl) :
    PE X (.Call (.Name x p) (.Name y py :: es) [] pos) (tV X.K X.mg E (eCallR i m fr)) := by
  obtain ⟨f, fd, hm, hk, hb, Fo⟩ := O.ex
  have hl : ps.length = n + 1 := hn.symm
  rw [hl] at Fo
  exact (pe_callG Fo hgd hr hg hm hk hb hx (pa_cons hv ha.pa hs) hdb hs hpl).imp fun σ H Q h => callR_read ha.len h
theorem pe_callSD {i : Nat} {y : Str} {py : Pos} (O : Ok X.prog X.w X.K X.mg X.base k x ps m) (hgd : X.A.guards = some []) (hr : Room k X.A) (hg : Gl X x) (hx : Passes (L2.CX X.prog X.w) X E) (hv : PE X (.Name y py) (tVar i)) (ha : PAn X.K X.mg E X es fr n) (hn : n + 1 = ps.length := by rfl)
    (hs : starEach (.Name y py :: es) X.env = (false, eval (.Name y py) X.env) :: starEach es X.env := by rfl)
    (hdb : (x == ("__debug__" : Str)) = false := by decide) (hpl : (backTo pos (starEach es X.env)).any (·.1) = false := by rfl) :
    PE X (.Call (.Name x p) (.Name y py :: es) [] pos) (tV X.K X.mg E (eCallS i m fr)) := by
  obtain ⟨f, fd, hm, hk, hb, Fo⟩ := O.ex
  have hl : ps.length = n + 1 := hn.symm
  rw [hl] at Fo
  exact (pe_callG Fo hgd hr hg hm hk hb hx (pa_cons hv ha.pa hs) hdb hs hpl).imp fun σ H Q h => callS_read ha.len h
end

/-! ### the end: the law's own call -/
theorem law_end {Pr : Program} {w : World} {K : PySem.W.Frag} {mg mb : Str → Option Value} {k : Nat} {fa a : Addr} {fd : FuncData} {x : Str} {m : Mir} {s1 : Shared} {vs : List Value} {ns : List Int}
    (KX : K.In s1.heap) (hN : s1.heap.Ns mainGlobals mg) (hB : s1.heap.Ns builtinsNs mb) (hBB : ∀ x : Str, x ≠ "__name__" → mb x = bootBuiltins x) (hL : s1.heap.NoLimit) (hG : s1.gens = #[])
    (ha : s1.heap.get? a = some { cls := .type "list", data := .seq vs.toArray }) (hi : IntsAre vs ns) (hl : ns.length ≤ sizeLine) (hr : Room k callerA)
    (Fo : ∀ base : Heap, K.In base → base.Ns mainGlobals mg → FnG Pr w K mg base k fa fd [x] (spF K mg 1 m)) (hbind : ∀ (s : Shared) (u : Value), BindsTo s fd ⟨[u], []⟩ [(x, u)])
    (hm : ∃ S, m [.sc ns] = .ok (.d (.bool true), S)) :
    codeAny (model Pr w) callerA (.call (.ref fa) ⟨[.ref a], []⟩) (fun r s' => r = .ok (.ret (.bool true)) ∧ PySem.OldK s1.heap s'.heap ∧ s'.os = s1.os ∧ AllBare s'.gens) s1 := by
  have rv := vals_ints hi
  let ob : Obj := { cls := .type "list", data := .seq vs.toArray }
  have main : ∀ H : Hp, (∀ b u, H b = some u → b = a ∧ u = .frz ob (.lst (ns.map V.int))) → (H a ≠ none → K.lookup a = none) → SqL K H a (ns.map V.int) → HOk Pr w H s1.heap →
      codeAny (model Pr w) callerA (.call (.ref fa) ⟨[.ref a], []⟩) (fun r s' => r = .ok (.ret (.bool true)) ∧ PySem.OldK s1.heap s'.heap ∧ s'.os = s1.os ∧ AllBare s'.gens) s1 := by
    intro H only lk hS hok
    have off : ∀ {b : Addr} {o : Obj}, s1.heap.get? b = some o → H b = none → (hidT s1.heap H).get? b = some o := fun e n => hidT_get e n
    have dictOff : ∀ {b : Addr} {o : Obj} {es : Array DictEntry} {ep : Nat}, s1.heap.get? b = some o → o.data = .dict es ep → H b = none := by
      intro b o es ep e d
      cases q : H b with
      | none => rfl
      | some u =>
        obtain ⟨rfl, _⟩ := only b u q
        rw [ha] at e; cases e; cases d
    have nsOff : ∀ {b : Addr} {m : Str → Option Value}, s1.heap.Ns b m → (hidT s1.heap H).Ns b m := by
      rintro b m ⟨o, es, ep, e, d, r⟩
      exact ⟨o, es, ep, off e (dictOff e d), d, r⟩
    have kb : K.In (hidT s1.heap H) := fun b o e => off (KX b o e) (by
      cases q : H b with
      | none => rfl
      | some u =>
        obtain ⟨rfl, _⟩ := only b u q
        rw [lk (by rw [q]; simp)] at e; cases e)
    have md : Mod K mg (hidT s1.heap H) := ⟨kb, nsOff hN, ⟨mb, nsOff hB, hBB⟩, by
      obtain ⟨mc, h1, h2⟩ := hL
      exact ⟨mc, nsOff h1, h2⟩⟩
    have e0 : Env0 Pr w K mg (hidT s1.heap H) callerA [] s1 H := ⟨rfl, md, fun b o e => of_hidT e, Nat.le_of_eq (hidT_size _ _), trivial, fun b hb => (nomatch hb), hok, .of_eq hG⟩
    obtain ⟨S, hm⟩ := hm
    have sp : spF K mg 1 m [.ref a] H (fun v _ => v = .bl true) EN := by
      refine ⟨rfl, H, [.sc ns], ⟨Same.refl H, rfl, fun i o x h1 h2 => ?_, fun i j o p x y c h1 h2 h3 h4 o1 o2 => ?_⟩, ?_⟩
      · cases i with
        | zero => cases h1; cases h2; exact ⟨a, rfl, hS⟩
        | succ i => cases h1
      · cases i with
        | zero => cases h1; cases h2; cases o1
        | succ i => cases h1
      · rw [hm]
        intro v F' H' A r
        cases r.rp
        rfl
    refine codeAny_mono ((Fo _ kb (nsOff hN)).goes callerA [] s1 H ⟨[.ref a], []⟩ [.ref a] [.ref a] _ _ rfl hr e0 (hbind s1 (.ref a)) (.cons rfl .nil) sp) fun r s' h => ?_
    cases r with
    | error e =>
      obtain ⟨_, _, _, _, _, _, _, _, _, _, _, _, z⟩ := h
      exact z.elim
    | ok fl =>
      cases fl with
      | next => exact h.elim
      | brk => exact h.elim
      | cont => exact h.elim
      | ret u =>
        obtain ⟨v, H', os, bare, un, hok', r', q⟩ := h
        obtain rfl : v = .bl true := q
        obtain rfl : u = Value.bool true := r'
        refine ⟨rfl, PySem.OldK.of_keep fun b o e => ?_, os, bare⟩
        cases q : H b with
        | none => exact un.keep b o e q (fun z => nomatch z) (fun z => nomatch z)
        | some u =>
          obtain ⟨rfl, rfl⟩ := only b u q
          obtain ⟨e1, _⟩ := hok b _ q
          obtain ⟨e2, _⟩ := hok' b _ (un.frzs b ob _ q)
          rw [e] at e1; cases e1
          exact e2
  cases hk : K.lookup a with
  | some o =>
    have e := KX a o hk
    rw [ha] at e; cases e
    refine main (fun _ => none) (fun b u z => (nomatch z)) (fun z => absurd rfl z) (.inr ⟨_, vs.toArray, _, hk, rfl, rfl, rfl, by rw [List.size_toArray, hi.length]; exact hl, by simpa using rv⟩) fun b u z => nomatch z
  | none =>
    have at_a : ∀ b, b = a → (fun b : Addr => if b = a then some (HO.frz ob (.lst (ns.map V.int))) else none) b = some (HO.frz ob (.lst (ns.map V.int))) := fun b hb => if_pos hb
    refine main (fun b => if b = a then some (.frz ob (.lst (ns.map V.int))) else none) (fun b u z => ?_) (fun _ => hk) (.inl (.inr ⟨ob, if_pos rfl⟩)) fun b u z => ?_
    · by_cases hb : b = a
      · have z2 := (if_pos hb).symm.trans z
        cases z2; exact ⟨hb, rfl⟩
      · have z2 := (if_neg hb).symm.trans z
        cases z2
    · by_cases hb : b = a
      · have z2 := (if_pos hb).symm.trans z
        cases z2; subst hb
        exact ⟨ha, by rw [List.length_map]; exact hl, vs, _, rv, ha⟩
      · have z2 := (if_neg hb).symm.trans z
        cases z2
/-- what is left of a law's row: its own def and that its mirror says True -/
theorem walk_end {l : PySem.W.OpenLaw} {n k : Nat} {q : Program} {loose : List Str} {XP : (Str → Option Value) → Heap → Prop} {YP : World → Heap → Prop} {d : DefRec} {K : PySem.Params → PySem.W.Frag} {x : Str} {m : Mir}
    (hn : l.most = some n) (hn2 : n ≤ sizeLine) (hdf : d.params.defaults = []) (hr : Room k callerA) (hY : ∀ (w : World) (h : Heap), YP w h → (K w.params).In h)
    (Fo : ∀ (w : World) (mg : Str → Option Value) (fa : Addr) (h : Heap), (K w.params).In h → h.Ns mainGlobals mg → mg d.name = some (.ref fa) →
      ∃ fd : FuncData, (∀ (s : Shared) (u : Value), BindsTo s fd ⟨[u], []⟩ [(x, u)]) ∧ ∀ base : Heap, (K w.params).In base → base.Ns mainGlobals mg → FnG l.prog w (K w.params) mg base k fa fd [x] (spF (K w.params) mg 1 m))
    (hm : ∀ ns : List Int, ns.length ≤ n → ∃ S, m [.sc ns] = .ok (.d (.bool true), S)) :
    PySem.W.WalkO q loose XP YP l.row.toRowW d [] (fun f vs => PySem.call f vs) := by
  refine Att.attach_call hn hdf fun w s0 s1 mg mb fa o pm cd doc a vs ns G Y ho hd hcd hmg hobj hints hlen hg => ?_
  obtain ⟨fd, hb, hF⟩ := Fo w mg fa _ (hY w _ Y) G.T.g hmg
  exact law_end (hY w _ Y) G.T.g G.T.b G.T.builtins G.T.nolimit hg hobj hints (Nat.le_trans hlen hn2) hr hF hb (hm ns hlen)
end PD

namespace PD
open PySem PySem.Spec PyProof.Rows L2
section
variable {X : Cx} {pins : List (Addr × Obj)} {F H : Hp} {σ : Sg} {s : Shared}

/-! ### data, read from the state -/
theorem kd_reads {h : Heap} {k : Key} {v : Value} (r : keyIs k v = true) : Reads h v (kD k) [] := by
  rcases keyIs_shape r with ⟨i, t, rfl, rfl⟩ | ⟨x, t, rfl, rfl⟩
  · exact .int i t
  · exact .str x t
theorem kv_rel {k : Key} {u : Value} (r : RelV (kV k) u) : keyIs k u = true := by
  cases k with
  | inl i => obtain ⟨t, rfl⟩ := r; exact keyIs_int i t
  | inr x => obtain ⟨t, rfl⟩ := r; exact keyIs_str x t
theorem kvs_readsAll {h : Heap} : ∀ {ks : List Key} {us : List Value}, Vals (ks.map kV) us → ReadsAll h us (ks.map kD) []
  | [], _, r => by cases r; exact .nil
  | k :: ks, _, r => by
    cases r with
    | cons r1 r2 => exact ReadsAll.cons (kd_reads (kv_rel r1)) (kvs_readsAll r2)
theorem readsAll_nil {h : Heap} {α : Type} {f : α → Value} {g : α → PyData} : ∀ {l : List α}, (∀ x ∈ l, Reads h (f x) (g x) []) → ReadsAll h (l.map f) (l.map g) []
  | [], _ => .nil
  | x :: l, e => ReadsAll.cons (e x (by simp)) (readsAll_nil fun y hy => e y (by simp [hy]))
theorem kv_vals {vs : List (Key × Value)} : ∀ {kvs : List (Key × V)}, KV kvs vs → kvs.map (·.1) = vs.map (·.1) ∧ Vals (kvs.map (·.2)) (vs.map (·.2)) := by
  induction vs with
  | nil => intro kvs r; cases r; exact ⟨rfl, .nil⟩
  | cons q vs ih =>
    intro kvs r
    cases r with
    | cons r1 r2 =>
      obtain ⟨e1, e2⟩ := ih r2
      exact ⟨by rw [List.map_cons, List.map_cons, r1.1, e1], .cons r1.2 e2⟩
theorem pairs_reads {P : Program} {w : World} {h : Heap} {es : List DictEntry} {vs : List (Key × Value)} (p : PySem.Pairs (mixKind P w) es vs) : ReadsAll h (es.map (·.key)) (vs.map fun q => kD q.1) [] ∧ es.map (·.val) = vs.map (·.2) := by
  induction p with
  | nil => exact ⟨.nil, rfl⟩
  | @cons e kv es vs h1 h2 _ ih =>
    refine ⟨ReadsAll.cons (kd_reads (by rw [mixKind_is] at h1; exact h1)) ih.1, ?_⟩
    rw [List.map_cons, List.map_cons, h2, ih.2]
theorem Rp.reads (I : Inv X pins σ H s) (sm : Same F H) {v : V} {d : PyData} (h : Rp X.K F v d) : ∀ u, RelV v u → ∃ as, Reads s.heap u d as := by
  refine Rp.rec (motive_1 := fun v d _ => ∀ u, RelV v u → ∃ as, Reads s.heap u d as) (motive_2 := fun vs ds _ => ∀ us, Vals vs us → ∃ as, ReadsAll s.heap us ds as) ?_ ?_ ?_ ?_ ?_ ?_ ?_ ?_ ?_ h
  · rintro u rfl; exact ⟨_, .none⟩
  · rintro b u rfl; exact ⟨_, .bool b⟩
  · rintro i u ⟨t, rfl⟩; exact ⟨_, .int i t⟩
  · rintro x u ⟨t, rfl⟩; exact ⟨_, .str x t⟩
  · rintro a vs ds hs _ ih u rfl
    obtain ⟨its, rv, ⟨o, n, ho, hc, _, hd⟩, _⟩ := I.list (SqL.of (K := X.K) (sm _ _ hs))
    obtain ⟨as, hr⟩ := ih its rv
    exact ⟨_, Reads.list ho hc hd hr⟩
  · rintro a vs ds hs _ ih u rfl
    obtain ⟨its, rv, ⟨o, ho, hc, n, hd⟩, _⟩ := I.tuple (Same.sqt sm hs)
    obtain ⟨as, hr⟩ := ih its rv
    exact ⟨_, Reads.tuple ho hc hd hr⟩
  · rintro a o ps kvs hr hp hk _ ih u rfl
    have ok := I.hok _ _ (sm _ _ hr)
    cases o with
    | dK kk =>
      obtain ⟨_, _, vs, rel, ob, es, ep, e1, e2, e3, e4, e5⟩ := ok
      cases hp
      obtain ⟨g1, g2⟩ := kv_vals rel
      obtain ⟨r1, r2⟩ := pairs_reads (h := s.heap) e5.1
      obtain ⟨bs, r3⟩ := ih _ (by rw [List.map_map]; exact g2)
      have hkeys : kvs.map (·.1) = vs.map fun q => kD q.1 := by
        rw [← hk, List.map_map]
        have e := congrArg (List.map kD) g1
        rw [List.map_map, List.map_map] at e
        exact e
      rw [← hkeys] at r1
      exact ⟨_, Reads.dict e1 e2.1 e3 r1 (by rw [r2]; exact r3)⟩
    | dT kk =>
      obtain ⟨_, _, xs, rel, ob, es, ep, e1, e2, e3, e4, e5⟩ := ok
      cases hp
      have main : ∀ {kk : List (List Key × V)} {xs : List (List Key × Addr × Value)}, Paired (fun (p : List Key × V) (q : List Key × Addr × Value) => p.1 = q.1 ∧ H q.2.1 = some (.tup (p.1.map kV)) ∧ RelV p.2 q.2.2) kk xs →
          ReadsAll s.heap (xs.map fun q => Value.ref q.2.1) (kk.map fun p => .tuple (p.1.map kD)) [] ∧ Vals (kk.map (·.2)) (xs.map fun q => q.2.2) := by
        intro kk
        induction kk with
        | nil => intro xs r; cases r; exact ⟨.nil, .nil⟩
        | cons p kk ih =>
          intro xs r
          cases r with
          | cons r1 r2 =>
            obtain ⟨i1, i2⟩ := ih r2
            refine ⟨ReadsAll.cons (as := []) (bs := []) ?_ i1, .cons r1.2.2 i2⟩
            obtain ⟨its, rv, ⟨o, ho, hc, n, hd⟩, _⟩ := I.tuple (SqT.of (K := X.K) r1.2.1)
            exact Reads.tuple ho hc hd (by simpa using kvs_readsAll rv)
      obtain ⟨m1, m2⟩ := main rel
      obtain ⟨bs, r3⟩ := ih _ (by rw [List.map_map]; exact m2)
      refine ⟨_, Reads.dict (as := []) (bs := bs) e1 e2.1 e3 ?_ ?_⟩
      · rw [e4, List.map_map, ← hk, List.map_map]; exact m1
      · rw [e4, List.map_map]; exact r3
    | _ => cases hp
  · rintro us r; cases r; exact ⟨_, .nil⟩
  · rintro v vs d ds _ _ i1 i2 us r
    cases r with
    | cons r1 r2 =>
      obtain ⟨as, q1⟩ := i1 _ r1
      obtain ⟨bs, q2⟩ := i2 _ r2
      exact ⟨_, .cons q1 q2⟩
end

/-! ### ==, !=, <, >, <=, >= -/
def dEqv : PyData → PyData → Option Bool
  | .str a, .str b => some (a == b)
  | .list xs, .list ys => if xs.length = ys.length then (if SeqAt.shaped (.list xs) && SeqAt.shaped (.list ys) then some (PyData.eqv (.list xs) (.list ys)) else none) else some false
  | x, y => if SeqAt.shaped x && SeqAt.shaped y then some (PyData.eqv x y) else none
def oB (f : PyData → PyData → Option Bool) : PyData → PyData → Res Sl := fun x y => match f x y with
  | some b => .ok (.d (.bool b))
  | none => .bad
def dEq : PyData → PyData → Res Sl := oB dEqv
def dNe : PyData → PyData → Res Sl := oB fun x y => (dEqv x y).map (!·)
def okLt (x y : PyData) : Bool := PySem.W.alike x y && !(match x with | .none => true | _ => false) && decide (x.depth ≤ 64)
def dCmp (f : PyData → PyData → Bool) : PyData → PyData → Res Sl := oB fun x y => if okLt x y = true then some (f x y) else none
def dLt : PyData → PyData → Res Sl := dCmp PySem.W.dataLt
def dGt : PyData → PyData → Res Sl := dCmp fun x y => PySem.W.dataLt y x
def dLe : PyData → PyData → Res Sl := dCmp fun x y => !PySem.W.dataLt y x
def dGe : PyData → PyData → Res Sl := dCmp fun x y => !PySem.W.dataLt x y
theorem oB_inv {f : PyData → PyData → Option Bool} {x y : PyData} {z : Sl} (h : oB f x y = .ok z) : ∃ b, f x y = some b ∧ z = .d (.bool b) := by
  unfold oB at h
  split at h
  · cases h; exact ⟨_, by assumption, rfl⟩
  · cases h
theorem oB_ne {f : PyData → PyData → Option Bool} : ∀ x y e, oB f x y ≠ .exc e := fun x y e h => by
  unfold oB at h
  split at h <;> cases h
theorem okLt_inv {x y : PyData} (h : okLt x y = true) : PySem.W.alike x y = true ∧ x ≠ .none ∧ x.depth ≤ 64 := by
  unfold okLt at h
  simp only [Bool.and_eq_true, decide_eq_true_eq] at h
  refine ⟨h.1.1, fun e => ?_, h.2⟩
  subst e
  have h2 := h.1.2
  exact Bool.false_ne_true h2
theorem dCmp_inv {f : PyData → PyData → Bool} {x y : PyData} {z : Sl} (h : dCmp f x y = .ok z) : PySem.W.alike x y = true ∧ x ≠ .none ∧ x.depth ≤ 64 ∧ z = .d (.bool (f x y)) := by
  obtain ⟨b, h1, rfl⟩ := oB_inv h
  split at h1
  · cases h1
    obtain ⟨a, b, c⟩ := okLt_inv (by assumption)
    exact ⟨a, b, c, rfl⟩
  · cases h1
section
variable {X : Cx}
theorem cmp_room {A : Around} {dx dy : PyData} (hu : A.units + 64 < cLine) (h : dx.depth ≤ 64) : A.units + min dx.depth dy.depth < cLine := by
  have h2 : min dx.depth dy.depth ≤ dx.depth := Nat.min_le_left _ _
  omega
theorem op_ltD (hu : X.A.units + 64 < cLine) : OpR X (compareOp .Lt) (rD2 X.K dLt) := by
  intro pins s σ H x y v u Q I rx ry ⟨F, dx, dy, z, sm, hx, hy, hz, q⟩
  obtain ⟨as, r1⟩ := hx.reads I sm v rx
  obtain ⟨bs, r2⟩ := hy.reads I sm u ry
  obtain ⟨a, b, c, rfl⟩ := dCmp_inv hz
  exact PySem.W.lt_data r1 r2 a b (cmp_room hu c) ⟨.bl _, H, I, rfl, q.here sm (.bl _)⟩
theorem op_gtD (hu : X.A.units + 64 < cLine) : OpR X (compareOp .Gt) (rD2 X.K dGt) := by
  intro pins s σ H x y v u Q I rx ry ⟨F, dx, dy, z, sm, hx, hy, hz, q⟩
  obtain ⟨as, r1⟩ := hx.reads I sm v rx
  obtain ⟨bs, r2⟩ := hy.reads I sm u ry
  obtain ⟨a, b, c, rfl⟩ := dCmp_inv hz
  exact PySem.W.gt_data r1 r2 a b (cmp_room hu c) ⟨.bl _, H, I, rfl, q.here sm (.bl _)⟩
theorem op_leD (hu : X.A.units + 64 < cLine) : OpR X (compareOp .LtE) (rD2 X.K dLe) := by
  intro pins s σ H x y v u Q I rx ry ⟨F, dx, dy, z, sm, hx, hy, hz, q⟩
  obtain ⟨as, r1⟩ := hx.reads I sm v rx
  obtain ⟨bs, r2⟩ := hy.reads I sm u ry
  obtain ⟨a, b, c, rfl⟩ := dCmp_inv hz
  exact PySem.W.le_data r1 r2 a b (cmp_room hu c) ⟨.bl _, H, I, rfl, q.here sm (.bl _)⟩
theorem op_geD (hu : X.A.units + 64 < cLine) : OpR X (compareOp .GtE) (rD2 X.K dGe) := by
  intro pins s σ H x y v u Q I rx ry ⟨F, dx, dy, z, sm, hx, hy, hz, q⟩
  obtain ⟨as, r1⟩ := hx.reads I sm v rx
  obtain ⟨bs, r2⟩ := hy.reads I sm u ry
  obtain ⟨a, b, c, rfl⟩ := dCmp_inv hz
  exact PySem.W.ge_data r1 r2 a b (cmp_room hu c) ⟨.bl _, H, I, rfl, q.here sm (.bl _)⟩
theorem eqv_inv {x y : PyData} {b : Bool} (h : dEqv x y = some b) : (SeqAt.shaped x = true ∧ SeqAt.shaped y = true ∧ b = PyData.eqv x y) ∨ (∃ xs ys, x = .list xs ∧ y = .list ys ∧ xs.length ≠ ys.length ∧ b = false) ∨ ∃ a c, x = .str a ∧ y = .str c ∧ b = (a == c) := by
  unfold dEqv at h
  split at h
  · cases h; exact .inr (.inr ⟨_, _, rfl, rfl, rfl⟩)
  · split at h
    · split at h
      · rename_i hh
        rw [Bool.and_eq_true] at hh
        cases h; exact .inl ⟨hh.1, hh.2, rfl⟩
      · cases h
    · cases h; exact .inr (.inl ⟨_, _, rfl, rfl, by assumption, rfl⟩)
  · split at h
    · rename_i hh
      rw [Bool.and_eq_true] at hh
      cases h; exact .inl ⟨hh.1, hh.2, rfl⟩
    · cases h
theorem rp_list {K : PySem.W.Frag} {F : Hp} {v : V} {ds : List PyData} (h : Rp K F v (.list ds)) : ∃ a vs, v = .ref a ∧ F a = some (.lst vs) ∧ RpA K F vs ds := by
  cases h with
  | lst hs ha => exact ⟨_, _, rfl, hs, ha⟩
theorem rp_tup {K : PySem.W.Frag} {F : Hp} {v : V} {ds : List PyData} (h : Rp K F v (.tuple ds)) : ∃ a vs, v = .ref a ∧ SqT K F a vs ∧ RpA K F vs ds := by
  cases h with
  | tup hs ha => exact ⟨_, _, rfl, hs, ha⟩
theorem rp_str {K : PySem.W.Frag} {F : Hp} {v : V} {x : Str} (h : Rp K F v (.str x)) : v = .str x := by cases h; rfl
theorem rp_bl {K : PySem.W.Frag} {F : Hp} {v : V} {b : Bool} (h : Rp K F v (.bool b)) : v = .bl b := by cases h; rfl
theorem rp_non {K : PySem.W.Frag} {F : Hp} {v : V} (h : Rp K F v .none) : v = .non := by cases h; rfl
theorem op_eqD' (hu : X.A.units + 64 < cLine) : OpR X (compareOp .Eq) (rD2 X.K dEq) := by
  intro pins s σ H x y v u Q I rx ry ⟨F, dx, dy, z, sm, hx, hy, hz, q⟩
  obtain ⟨b, hb, rfl⟩ := oB_inv hz
  rcases eqv_inv hb with ⟨h1, h2, rfl⟩ | ⟨xs, ys, rfl, rfl, hne, rfl⟩ | ⟨a, c, rfl, rfl, rfl⟩
  · obtain ⟨as, r1⟩ := hx.reads I sm v rx
    obtain ⟨bs, r2⟩ := hy.reads I sm u ry
    exact SeqAt.compareEq_shaped r1 r2 h1 h2 hu ⟨.bl _, H, I, rfl, q.here sm (.bl _)⟩
  · obtain ⟨a, vs, rfl, hs, ha⟩ := rp_list hx
    obtain ⟨b, ws, rfl, hs2, hb2⟩ := rp_list hy
    cases rx; cases ry
    obtain ⟨i1, v1, l1, _⟩ := I.list (SqL.of (K := X.K) (sm _ _ hs))
    obtain ⟨i2, v2, l2, _⟩ := I.list (SqL.of (K := X.K) (sm _ _ hs2))
    refine PySem.SeqAt.RcAt.lists_lengths l1.isList l2.isList ?_ (by omega) _ _ _ _ ⟨.bl false, H, I, rfl, q.here sm (.bl _)⟩
    rw [List.size_toArray, List.size_toArray, ← v1.length, ← v2.length, ha.length, hb2.length]
    simpa using hne
  · cases rp_str hx; cases rp_str hy
    exact op_eq pins s σ H _ _ v u Q I rx ry ⟨rfl, q.here sm (by rw [← dec_str]; exact .bl _)⟩
theorem op_neD' (hu : X.A.units + 64 < cLine) : OpR X (compareOp .NotEq) (rD2 X.K dNe) := by
  intro pins s σ H x y v u Q I rx ry ⟨F, dx, dy, z, sm, hx, hy, hz, q⟩
  obtain ⟨b, hb, rfl⟩ := oB_inv hz
  obtain ⟨c, hc, rfl⟩ := Option.map_eq_some_iff.mp hb
  rcases eqv_inv hc with ⟨h1, h2, rfl⟩ | ⟨xs, ys, rfl, rfl, hne, rfl⟩ | ⟨a, c, rfl, rfl, rfl⟩
  · obtain ⟨as, r1⟩ := hx.reads I sm v rx
    obtain ⟨bs, r2⟩ := hy.reads I sm u ry
    exact SeqAt.compareNe_shaped r1 r2 h1 h2 hu ⟨.bl _, H, I, rfl, q.here sm (.bl _)⟩
  · obtain ⟨a, vs, rfl, hs, ha⟩ := rp_list hx
    obtain ⟨b, ws, rfl, hs2, hb2⟩ := rp_list hy
    cases rx; cases ry
    obtain ⟨i1, v1, l1, _⟩ := I.list (SqL.of (K := X.K) (sm _ _ hs))
    obtain ⟨i2, v2, l2, _⟩ := I.list (SqL.of (K := X.K) (sm _ _ hs2))
    refine PySem.SeqAt.RcNeAt.lists_lengths l1.isList l2.isList ?_ (by omega) _ _ _ _ ⟨.bl true, H, I, rfl, q.here sm (.bl _)⟩
    rw [List.size_toArray, List.size_toArray, ← v1.length, ← v2.length, ha.length, hb2.length]
    simpa using hne
  · cases rp_str hx; cases rp_str hy
    exact op_ne pins s σ H _ _ v u Q I rx ry ⟨rfl, q.here sm (by rw [← dec_str]; exact .bl _)⟩

/-! ### arithmetic -/
def bI (b : Bool) : Int := if b = true then 1 else 0
def dAdd : PyData → PyData → Res Sl
  | .int i, .int j => .ok (.d (.int (i + j)))
  | .bool b, .int j => .ok (.d (.int (bI b + j)))
  | .list xs, .list ys => if xs.length + ys.length ≤ sizeLine then .ok (.ol (xs ++ ys)) else .bad
  | .tuple xs, .tuple ys => if xs.length + ys.length ≤ sizeLine then .ok (.d (.tuple (xs ++ ys))) else .bad
  | _, _ => .bad
def dSub : PyData → PyData → Res Sl
  | .int i, .int j => .ok (.d (.int (i - j)))
  | .bool b, .int j => .ok (.d (.int (bI b - j)))
  | _, _ => .bad
def cMul (i j : Int) : Bool := decide ((-(2 ^ 64) < i ∧ i < 2 ^ 64) ∨ (-(2 ^ 64) < j ∧ j < 2 ^ 64))
theorem cMul_ok {i j : Int} (h : cMul i j = true) : CMul i j := by
  unfold cMul at h
  unfold CMul
  exact of_decide_eq_true h
def dMul : PyData → PyData → Res Sl
  | .int i, .int j => if cMul i j = true then .ok (.d (.int (i * j))) else .bad
  | .list xs, .int k => if 0 ≤ k ∧ k ≤ 1000 ∧ xs.length * k.toNat ≤ sizeLine then .ok (.ol (List.replicate k.toNat xs).flatten) else .bad
  | .tuple xs, .int k => if 2 ≤ k ∧ k ≤ 1000 ∧ xs.length ≤ 1000 then .ok (.d (.tuple (List.replicate k.toNat xs).flatten)) else .bad
  | _, _ => .bad
def dMod : PyData → PyData → Res Sl
  | .int i, .int j => if 0 < j then .ok (.d (.int (i % j))) else .bad
  | _, _ => .bad
def dFdv : PyData → PyData → Res Sl
  | .int i, .int j => if 0 < j ∧ j < 1073741824 then .ok (.d (.int (i / j))) else .bad
  | _, _ => .bad
def dPow : PyData → PyData → Res Sl
  | .int i, .int j => if 0 ≤ j ∧ j ≤ 1000000 ∧ i.natAbs < 2 ^ 64 then .ok (.d (.int (i ^ j.toNat))) else .bad
  | _, _ => .bad
def dNeg : PyData → Res Sl
  | .int i => .ok (.d (.int (-i)))
  | _ => .bad
theorem dAdd_ne : ∀ x y e, dAdd x y ≠ .exc e := fun x y e h => by
  unfold dAdd at h
  split at h <;> (try split at h) <;> cases h
theorem dSub_ne : ∀ x y e, dSub x y ≠ .exc e := fun x y e h => by
  unfold dSub at h
  split at h <;> (try split at h) <;> cases h
theorem dMul_ne : ∀ x y e, dMul x y ≠ .exc e := fun x y e h => by
  unfold dMul at h
  split at h <;> (try split at h) <;> cases h
theorem dMod_ne : ∀ x y e, dMod x y ≠ .exc e := fun x y e h => by
  unfold dMod at h
  split at h <;> (try split at h) <;> cases h
theorem dFdv_ne : ∀ x y e, dFdv x y ≠ .exc e := fun x y e h => by
  unfold dFdv at h
  split at h <;> (try split at h) <;> cases h
theorem dPow_ne : ∀ x y e, dPow x y ≠ .exc e := fun x y e h => by
  unfold dPow at h
  split at h <;> (try split at h) <;> cases h
theorem dNeg_ne : ∀ x e, dNeg x ≠ .exc e := fun x e h => by
  unfold dNeg at h
  split at h <;> cases h
end
section
variable {X : Cx}
theorem op_addD : OpR X (binaryOp .Add) (rD2 X.K dAdd) := by
  intro pins s σ H x y v u Q I rx ry ⟨F, dx, dy, z, sm, hx, hy, hz, q⟩
  unfold dAdd at hz
  split at hz
  · cases hz; cases hx; cases hy
    exact op_add pins s σ H _ _ v u Q I rx ry ⟨_, _, rfl, rfl, q.here sm (.int _)⟩
  · cases hz; cases hx; cases hy
    obtain rfl := rx
    obtain ⟨t, rfl⟩ := ry
    exact PySem.IntBool.add_bool_int ⟨.int _, H, I.tok _, ⟨_, rfl⟩, q.here sm (.int _)⟩
  · split at hz
    · cases hz
      obtain ⟨a, vs, rfl, hs, ha⟩ := rp_list hx
      obtain ⟨b, ws, rfl, hs2, hb⟩ := rp_list hy
      exact op_cat pins s σ H _ _ v u Q I rx ry ⟨_, _, _, _, rfl, rfl, sm _ _ hs, sm _ _ hs2, by rw [ha.length, hb.length]; assumption, fun p hp => q.list sm hp (ha.append hb)⟩
    · cases hz
  · split at hz
    · cases hz
      obtain ⟨a, vs, rfl, hs, ha⟩ := rp_tup hx
      obtain ⟨b, ws, rfl, hs2, hb⟩ := rp_tup hy
      refine op_catA pins s σ H _ _ v u Q I rx ry ⟨_, _, _, _, rfl, rfl, Same.sqt sm hs, Same.sqt sm hs2, by rw [ha.length, hb.length]; assumption, fun e => ?_, fun _ e => ?_, fun _ _ p hp => q.tup sm hp (ha.append hb)⟩
      · subst e; cases ha; exact q.here sm (.tup hs2 hb)
      · subst e; cases hb
        refine q.here sm (.tup hs ?_)
        rw [List.append_nil]; exact ha
    · cases hz
  · cases hz
theorem op_subD : OpR X (binaryOp .Sub) (rD2 X.K dSub) := by
  intro pins s σ H x y v u Q I rx ry ⟨F, dx, dy, z, sm, hx, hy, hz, q⟩
  unfold dSub at hz
  split at hz
  · cases hz; cases hx; cases hy
    exact op_sub pins s σ H _ _ v u Q I rx ry ⟨_, _, rfl, rfl, q.here sm (.int _)⟩
  · cases hz; cases hx; cases hy
    obtain rfl := rx
    obtain ⟨t, rfl⟩ := ry
    exact PySem.IntBool.sub_bool_int ⟨.int _, H, I.tok _, ⟨_, rfl⟩, q.here sm (.int _)⟩
  · cases hz
theorem tuple_mul0 (l : Addr) (items : Array Value) (n : Nat) (dd : Option Addr) (sl : Array (Option Value)) (x : Int) (u : Tok) (c0 : (decide (x < -(2 ^ 63)) || decide (x ≥ 2 ^ 63)) = false) (c1 : items.isEmpty = true) :
    Meets (Builtin.«tuple.__mul__» ⟨[.ref l, .int x u], []⟩) (fun _ R s => s.heap.get? l = some { cls := .type "tuple", dict := dd, data := .seq items n, slots := sl } ∧ R (.ok (.ret (Value.ref l))) s) :=
  .of_wp fun prog w A R s h => by
    obtain ⟨hp, g, d, tk, os⟩ := s
    obtain ⟨hl, h⟩ := h
    have f1 := AutoSeq1.idx_int
    have f2 := AutoSeq1.sub_tuple_tuple
    wp_walk using wpAny_loadPart' hl
    repeat (first
      | (refine wpAny_ite_false (decide_eq_false (by rw [c0]; exact Bool.false_ne_true)) ?_; wp_walk using wpAny_loadPart' hl)
      | (refine wpAny_ite_true (decide_eq_true (by rw [c1]; rfl)) ?_; wp_walk using wpAny_loadPart' hl))
    exact ⟨_, rfl, h⟩
theorem op_repT0 : OpR X (binaryOp .Mult) (fun x y H Q => ∃ l k, x = .ref l ∧ y = .int k ∧ SqT X.K H l [] ∧ -(2 ^ 63) ≤ k ∧ k < 2 ^ 63 ∧ Q (.ref l) H) := by
  intro pins s σ H x y v u Q I rx ry h
  obtain ⟨l, k, rfl, rfl, hT, h1, h2, q⟩ := h
  cases rx
  obtain ⟨t, rfl⟩ := ry
  obtain ⟨its, r, ⟨⟨cls, dd, data, sl⟩, ho, hc, n, hd⟩, hs⟩ := I.tuple hT
  simp only at hc hd
  subst hc hd
  cases r
  have c0 : (decide (k < -(2 ^ 63)) || decide (k ≥ 2 ^ 63)) = false := by
    rw [decide_eq_false (by omega), decide_eq_false (by omega)] <;> rfl
  exact wpAny_binaryOp_repeat_ref (T := "tuple") (U := "int") (by decide) ⟨_, ho, rfl⟩ (fun s' => typeIs_int s' k t) noFill_tuple_mul PySem.F.fills_int_mul PySem.F.slot_int_rmul repeat_tuple PySem.F.slot_int_index.lookup
    (call_meets PySem.F.slot_int_rmul (typeIs_int s k t) PySem.F.entry_int_rmul (PySem.F.args_int_rmul_2 _ _) (int_rmul_tuple k t l [].toArray n dd sl)
      ⟨ho, rfl, ⟨_, ho, rfl⟩, call_meets PySem.F.slot_tuple_mul ⟨_, ho, rfl⟩ PySem.F.entry_tuple_mul (PySem.F.args_tuple_mul_2 _ _) (tuple_mul0 l [].toArray n dd sl k t c0 rfl) ⟨ho, .ref l, H, I, rfl, q⟩⟩)
theorem op_mulD : OpR X (binaryOp .Mult) (rD2 X.K dMul) := by
  intro pins s σ H x y v u Q I rx ry ⟨F, dx, dy, z, sm, hx, hy, hz, q⟩
  unfold dMul at hz
  split at hz
  · split at hz
    · rename_i hh
      cases hz; cases hx; cases hy
      exact op_mul pins s σ H _ _ v u Q I rx ry ⟨_, _, rfl, rfl, cMul_ok hh, q.here sm (.int _)⟩
    · cases hz
  · split at hz
    · rename_i hh
      cases hz; cases hy
      obtain ⟨a, vs, rfl, hs, ha⟩ := rp_list hx
      have fl : RpA X.K F (List.replicate (Int.toNat ‹Int›) vs).flatten (List.replicate (Int.toNat ‹Int›) ‹List PyData›).flatten := by
        generalize Int.toNat _ = m
        induction m with
        | zero => exact .nil
        | succ m ih => rw [List.replicate_succ, List.replicate_succ, List.flatten_cons, List.flatten_cons]; exact ha.append ih
      exact op_rep pins s σ H _ _ v u Q I rx ry ⟨_, _, _, rfl, rfl, sm _ _ hs, by omega, by omega, by rw [ha.length]; exact hh.2.2, fun p hp => q.list sm hp fl⟩
    · cases hz
  · split at hz
    · rename_i hh
      cases hz; cases hy
      obtain ⟨a, vs, rfl, hs, ha⟩ := rp_tup hx
      have fl : RpA X.K F (List.replicate (Int.toNat ‹Int›) vs).flatten (List.replicate (Int.toNat ‹Int›) ‹List PyData›).flatten := by
        generalize Int.toNat _ = m
        induction m with
        | zero => exact .nil
        | succ m ih => rw [List.replicate_succ, List.replicate_succ, List.flatten_cons, List.flatten_cons]; exact ha.append ih
      by_cases hv : vs = []
      · subst hv; cases ha
        have e0 : ∀ m : Nat, (List.replicate m ([] : List PyData)).flatten = [] := fun m => by
          induction m with
          | zero => rfl
          | succ m ih => rw [List.replicate_succ, List.flatten_cons, ih]; rfl
        rw [e0] at q
        exact op_repT0 pins s σ H _ _ v u Q I rx ry ⟨_, _, rfl, rfl, Same.sqt sm hs, by omega, by omega, q.here sm hx⟩
      · exact op_repT pins s σ H _ _ v u Q I rx ry ⟨_, _, _, rfl, rfl, Same.sqt sm hs, hv, hh.1, hh.2.1, by rw [ha.length]; exact hh.2.2, fun p hp => q.tup sm hp fl⟩
    · cases hz
  · cases hz
theorem op_modD : OpR X (binaryOp .Mod) (rD2 X.K dMod) := by
  intro pins s σ H x y v u Q I rx ry ⟨F, dx, dy, z, sm, hx, hy, hz, q⟩
  unfold dMod at hz
  split at hz
  · split at hz
    · rename_i hh
      cases hz; cases hx; cases hy
      exact op_mod pins s σ H _ _ v u Q I rx ry ⟨_, _, rfl, rfl, hh, q.here sm (.int _)⟩
    · cases hz
  · cases hz
theorem op_fdvD : OpR X (binaryOp .FloorDiv) (rD2 X.K dFdv) := by
  intro pins s σ H x y v u Q I rx ry ⟨F, dx, dy, z, sm, hx, hy, hz, q⟩
  unfold dFdv at hz
  split at hz
  · split at hz
    · rename_i hh
      cases hz; cases hx; cases hy
      exact op_fdiv pins s σ H _ _ v u Q I rx ry ⟨_, _, rfl, rfl, hh, q.here sm (.int _)⟩
    · cases hz
  · cases hz
theorem op_powD : OpR X (binaryOp .Pow) (rD2 X.K dPow) := by
  intro pins s σ H x y v u Q I rx ry ⟨F, dx, dy, z, sm, hx, hy, hz, q⟩
  unfold dPow at hz
  split at hz
  · split at hz
    · rename_i hh
      cases hz; cases hx; cases hy
      exact op_pow pins s σ H _ _ v u Q I rx ry ⟨_, _, rfl, rfl, hh, q.here sm (.int _)⟩
    · cases hz
  · cases hz
theorem un_negD : UnR X (unaryOp .USub) (rD1 X.K dNeg) := by
  intro pins s σ H x v Q I rx ⟨F, dx, z, sm, hx, hz, q⟩
  unfold dNeg at hz
  split at hz
  · cases hz; cases hx
    exact un_neg pins s σ H _ v Q I rx ⟨_, rfl, q.here sm (.int _)⟩
  · cases hz

/-! ### in, not in, is None -/
def dIn : PyData → PyData → Res Sl := oB fun x y => match y with
  | .list ds => if SeqAt.shaped x && SeqAt.shaped (.list ds) then some (ds.any fun z => PyData.eqv z x) else none
  | .tuple ds => if SeqAt.shaped x && SeqAt.shaped (.tuple ds) then some (ds.any fun z => PyData.eqv z x) else none
  | _ => none
def dNotIn : PyData → PyData → Res Sl := oB fun x y => match y with
  | .list ds => if SeqAt.shaped x && SeqAt.shaped (.list ds) then some (!ds.any fun z => PyData.eqv z x) else none
  | .tuple ds => if SeqAt.shaped x && SeqAt.shaped (.tuple ds) then some (!ds.any fun z => PyData.eqv z x) else none
  | _ => none
theorem op_inD' (hu : X.A.units + 65 < cLine) : OpR X (compareOp .In) (rD2 X.K dIn) := by
  intro pins s σ H x y v u Q I rx ry ⟨F, dx, dy, z, sm, hx, hy, hz, q⟩
  obtain ⟨b, hb, rfl⟩ := oB_inv hz
  obtain ⟨as, r1⟩ := hx.reads I sm v rx
  obtain ⟨bs, r2⟩ := hy.reads I sm u ry
  split at hb
  · split at hb
    · rename_i hh
      rw [Bool.and_eq_true] at hh
      cases hb
      exact SeqAt.in_list_reads r2 r1 (SeqAt.canLay_of_shaped hh.2) (SeqAt.canLay_of_shaped hh.1) (room_in_shaped hh.1 hu) ⟨.bl _, H, I, rfl, q.here sm (.bl _)⟩
    · cases hb
  · split at hb
    · rename_i hh
      rw [Bool.and_eq_true] at hh
      cases hb
      exact SeqAt.in_tuple_reads r2 r1 (SeqAt.canLay_of_shaped hh.2) (SeqAt.canLay_of_shaped hh.1) (room_in_shaped hh.1 hu) ⟨.bl _, H, I, rfl, q.here sm (.bl _)⟩
    · cases hb
  · cases hb
theorem op_notInD' (hu : X.A.units + 65 < cLine) : OpR X (compareOp .NotIn) (rD2 X.K dNotIn) := by
  intro pins s σ H x y v u Q I rx ry ⟨F, dx, dy, z, sm, hx, hy, hz, q⟩
  obtain ⟨b, hb, rfl⟩ := oB_inv hz
  obtain ⟨as, r1⟩ := hx.reads I sm v rx
  obtain ⟨bs, r2⟩ := hy.reads I sm u ry
  split at hb
  · split at hb
    · rename_i hh
      rw [Bool.and_eq_true] at hh
      cases hb
      exact SeqAt.notIn_list_reads r2 r1 (SeqAt.canLay_of_shaped hh.2) (SeqAt.canLay_of_shaped hh.1) (room_in_shaped hh.1 hu) ⟨.bl _, H, I, rfl, q.here sm (.bl _)⟩
    · cases hb
  · split at hb
    · rename_i hh
      rw [Bool.and_eq_true] at hh
      cases hb
      exact SeqAt.notIn_tuple_reads r2 r1 (SeqAt.canLay_of_shaped hh.2) (SeqAt.canLay_of_shaped hh.1) (room_in_shaped hh.1 hu) ⟨.bl _, H, I, rfl, q.here sm (.bl _)⟩
    · cases hb
  · cases hb
def isN : PyData → Bool
  | .none => true
  | _ => false
def dIsN : PyData → PyData → Res Sl := oB fun x y => if isN y then some (isN x) else none
def dNotN : PyData → PyData → Res Sl := oB fun x y => if isN y then some (!isN x) else none
theorem isN_eq {x : PyData} (h : isN x = true) : x = .none := by cases x <;> first | rfl | cases h
theorem isN_v {K : PySem.W.Frag} {F : Hp} {v : V} {x : PyData} (h : Rp K F v x) : decide (v = .non) = isN x := by cases h <;> rfl
theorem op_isND : OpR X (compareOp .Is) (rD2 X.K dIsN) := by
  intro pins s σ H x y v u Q I rx ry ⟨F, dx, dy, z, sm, hx, hy, hz, q⟩
  obtain ⟨b, hb, rfl⟩ := oB_inv hz
  split at hb
  · rename_i hh
    cases isN_eq hh
    cases hb
    exact op_isN pins s σ H x y v u Q I rx ry ⟨rp_non hy, q.here sm (by rw [← isN_v hx]; exact .bl _)⟩
  · cases hb
theorem op_notND : OpR X (compareOp .IsNot) (rD2 X.K dNotN) := by
  intro pins s σ H x y v u Q I rx ry ⟨F, dx, dy, z, sm, hx, hy, hz, q⟩
  obtain ⟨b, hb, rfl⟩ := oB_inv hz
  split at hb
  · rename_i hh
    cases isN_eq hh
    cases hb
    exact op_notN pins s σ H x y v u Q I rx ry ⟨rp_non hy, q.here sm (by rw [← isN_v hx]; exact .bl _)⟩
  · cases hb

/-! ### x[i], x[lo:hi] -/
def oS (r : Option PyData) : Res Sl := match r with
  | some x => .ok (.d x)
  | none => .bad
theorem oS_inv {r : Option PyData} {z : Sl} (h : oS r = .ok z) : ∃ x, r = some x ∧ z = .d x := by
  unfold oS at h
  split at h
  · cases h; exact ⟨_, rfl, rfl⟩
  · cases h
theorem oS_ne {r : Option PyData} {e : Xc} : oS r ≠ .exc e := fun h => by
  unfold oS at h
  split at h <;> cases h
def dIx : PyData → PyData → Res Sl
  | .list xs, .int i => oS (atI xs i)
  | .tuple xs, .int i => oS (atI xs i)
  | .str z, .int i => if z.length ≤ sizeLine then oS ((atI z.cps.toList i).map fun c => .str ⟨#[c]⟩) else .bad
  | _, _ => .bad
theorem dIx_ne : ∀ x y e, dIx x y ≠ .exc e := fun x y e h => by
  unfold dIx at h
  split at h
  · exact oS_ne h
  · exact oS_ne h
  · split at h
    · exact oS_ne h
    · cases h
  · cases h
theorem RpA.atI {K : PySem.W.Frag} {F : Hp} {vs : List V} {ds : List PyData} {i : Int} {d : PyData} (r : RpA K F vs ds) (h : atI ds i = some d) : ∃ v, atI vs i = some v ∧ Rp K F v d := by
  unfold L2.atI at h ⊢
  rw [r.length]
  cases e : ixN ds.length i with
  | none => rw [e] at h; cases h
  | some j =>
    rw [e] at h
    obtain ⟨v, h1, h2⟩ := r.get (i := j) h
    exact ⟨v, h1, h2⟩
theorem ix_D : IxR X (rD2 X.K dIx) := by
  intro value slice pins s σ H x y v u Q I rx ry ⟨F, dx, dy, z, sm, hx, hy, hz, q⟩ hs
  unfold dIx at hz
  split at hz
  · obtain ⟨d, e, rfl⟩ := oS_inv hz
    cases hy
    obtain ⟨a, vs, rfl, hq, ha⟩ := rp_list hx
    obtain ⟨w, h1, h2⟩ := ha.atI e
    exact ix_list value slice pins s σ H _ _ v u Q I rx ry ⟨_, _, _, _, rfl, rfl, SqL.of (sm _ _ hq), h1, q.here sm h2⟩ hs
  · obtain ⟨d, e, rfl⟩ := oS_inv hz
    cases hy
    obtain ⟨a, vs, rfl, hq, ha⟩ := rp_tup hx
    obtain ⟨w, h1, h2⟩ := ha.atI e
    exact ix_tup value slice pins s σ H _ _ v u Q I rx ry ⟨_, _, _, _, rfl, rfl, Same.sqt sm hq, h1, q.here sm h2⟩ hs
  · split at hz
    · obtain ⟨d, e, rfl⟩ := oS_inv hz
      obtain ⟨c, e1, rfl⟩ := Option.map_eq_some_iff.mp e
      cases hx; cases hy
      exact ix_str value slice pins s σ H _ _ v u Q I rx ry ⟨_, _, _, rfl, rfl, by assumption, e1, q.here sm (.str _)⟩ hs
    · cases hz
  · cases hz
def cutD (xs : List PyData) (lo hi : Option Int) : List PyData := (xs.drop (HT.sIx xs.length 0 lo)).take (HT.sIx xs.length xs.length hi - HT.sIx xs.length 0 lo)
def dSl : PyData → Option Int → Option Int → Res Sl
  | .list xs, lo, hi => .ok (.ol (cutD xs lo hi))
  | .tuple xs, lo, hi => .ok (.d (.tuple (cutD xs lo hi)))
  | .str z, lo, hi => if z.length ≤ sizeLine then .ok (.d (.str (cutS z lo hi))) else .bad
  | _, _, _ => .bad
theorem dSl_ne : ∀ x lo hi e, dSl x lo hi ≠ .exc e := fun x lo hi e h => by
  unfold dSl at h
  split at h <;> (try split at h) <;> cases h
theorem RpA.cut {K : PySem.W.Frag} {F : Hp} {vs : List V} {ds : List PyData} (lo hi : Option Int) (r : RpA K F vs ds) : RpA K F (cutV vs lo hi) (cutD ds lo hi) := by
  unfold cutV cutD
  rw [r.length]
  exact (r.drop _).take _
theorem cut_all {xs : List PyData} {lo hi : Option Int} (h : HT.sIx xs.length 0 lo = 0 ∧ HT.sIx xs.length xs.length hi = xs.length) : cutD xs lo hi = xs := by
  unfold cutD
  rw [h.1, h.2, List.drop_zero, Nat.sub_zero, List.take_length]
theorem sl_D : SlR X (rSlD X.K dSl) := by
  intro pins s σ H x v vl vu lo hi sl Q I rx hs pl pu ⟨F, dx, z, sm, hx, hz, q⟩
  unfold dSl at hz
  split at hz
  · cases hz
    obtain ⟨a, vs, rfl, hq, ha⟩ := rp_list hx
    exact sl_list pins s σ H _ v vl vu _ _ sl Q I rx hs pl pu ⟨_, _, rfl, SqL.of (sm _ _ hq), fun p hp => q.list sm hp (ha.cut _ _)⟩
  · cases hz
    obtain ⟨a, vs, rfl, hq, ha⟩ := rp_tup hx
    refine sl_tupA pins s σ H _ v vl vu _ _ sl Q I rx hs pl pu ⟨_, _, rfl, Same.sqt sm hq, fun e => ?_, fun _ p hp => q.tup sm hp (ha.cut _ _)⟩
    rw [ha.length] at e
    refine q.here sm (.tup hq ?_)
    rw [cut_all e]; exact ha
  · split at hz
    · cases hz; cases hx
      exact sl_str pins s σ H _ v vl vu _ _ sl Q I rx hs pl pu ⟨_, rfl, by assumption, q.here sm (.str _)⟩
    · cases hz
  · cases hz
end
end PD

namespace PD
open PySem PySem.Spec PyProof.Rows L2

/-! ### built-ins -/
def asInts : List PyData → Option (List Int)
  | [] => some []
  | .int i :: xs => (asInts xs).map (i :: ·)
  | _ :: _ => none
def asBools : List PyData → Option (List Bool)
  | [] => some []
  | .bool b :: xs => (asBools xs).map (b :: ·)
  | _ :: _ => none
theorem asInts_rp {K : PySem.W.Frag} {F : Hp} : ∀ {ds : List PyData} {vs : List V} {ns : List Int}, RpA K F vs ds → asInts ds = some ns → vs = ns.map V.int
  | [], _, _, r, e => by cases r; cases e; rfl
  | d :: ds, _, _, r, e => by
    cases r with
    | cons r1 r2 =>
      cases d with
      | int i =>
        rw [asInts] at e
        obtain ⟨ms, h1, rfl⟩ := Option.map_eq_some_iff.mp e
        rw [rp_int r1, asInts_rp r2 h1]; rfl
      | _ => cases e
theorem asBools_rp {K : PySem.W.Frag} {F : Hp} : ∀ {ds : List PyData} {vs : List V} {ns : List Bool}, RpA K F vs ds → asBools ds = some ns → vs = ns.map V.bl
  | [], _, _, r, e => by cases r; cases e; rfl
  | d :: ds, _, _, r, e => by
    cases r with
    | cons r1 r2 =>
      cases d with
      | bool i =>
        rw [asBools] at e
        obtain ⟨ms, h1, rfl⟩ := Option.map_eq_some_iff.mp e
        rw [rp_bl r1, asBools_rp r2 h1]; rfl
      | _ => cases e
def dLen : List PyData → Res Sl
  | [.list xs] => .ok (.d (.int (xs.length : Nat)))
  | [.tuple xs] => .ok (.d (.int (xs.length : Nat)))
  | [.str z] => if z.length ≤ sizeLine then .ok (.d (.int (z.length : Nat))) else .bad
  | _ => .bad
def dAbs : List PyData → Res Sl
  | [.int i] => .ok (.d (.int (if i < 0 then -i else i)))
  | _ => .bad
def maxI : List Int → Int
  | [] => 0
  | [x] => x
  | x :: xs => if maxI xs > x then maxI xs else x
def minI : List Int → Int
  | [] => 0
  | [x] => x
  | x :: xs => if minI xs < x then minI xs else x
def dMax : List PyData → Res Sl
  | [.int i, .int j] => .ok (.d (.int (if j > i then j else i)))
  | [.list xs] => match asInts xs with
    | some (n :: ns) => .ok (.d (.int (maxI (n :: ns))))
    | _ => .bad
  | _ => .bad
def dMin : List PyData → Res Sl
  | [.int i, .int j] => .ok (.d (.int (if j < i then j else i)))
  | [.list xs] => match asInts xs with
    | some (n :: ns) => .ok (.d (.int (minI (n :: ns))))
    | _ => .bad
  | _ => .bad
def dSum : List PyData → Res Sl
  | [.list xs] => match asInts xs with
    | some ns => .ok (.d (.int ns.sum))
    | _ => .bad
  | _ => .bad
def dAll : List PyData → Res Sl
  | [.list xs] => match asBools xs with
    | some ns => .ok (.d (.bool (ns.all id)))
    | _ => .bad
  | _ => .bad
def dAny : List PyData → Res Sl
  | [.list xs] => match asBools xs with
    | some ns => .ok (.d (.bool (ns.any id)))
    | _ => .bad
  | _ => .bad
def dInt : List PyData → Res Sl
  | [.int i] => .ok (.d (.int i))
  | [.bool b] => .ok (.d (.int (if b then 1 else 0)))
  | _ => .bad
def dList : List PyData → Res Sl
  | [.list xs] => .ok (.ol xs)
  | [.tuple xs] => .ok (.ol xs)
  | _ => .bad
def dTup : List PyData → Res Sl
  | [.list xs] => .ok (.d (.tuple xs))
  | [.tuple xs] => .ok (.d (.tuple xs))
  | _ => .bad
def dDvm : List PyData → Res Sl
  | [.int i, .int j] => if 0 < j ∧ j < 1073741824 then .ok (.d (.tuple [.int (i / j), .int (i % j)])) else .bad
  | _ => .bad
theorem dLen_ne : ∀ x e, dLen x ≠ .exc e := fun x e h => by unfold dLen at h; split at h <;> (try split at h) <;> cases h
theorem dAbs_ne : ∀ x e, dAbs x ≠ .exc e := fun x e h => by unfold dAbs at h; split at h <;> (try split at h) <;> cases h
theorem dMax_ne : ∀ x e, dMax x ≠ .exc e := fun x e h => by unfold dMax at h; split at h <;> (try split at h) <;> cases h
theorem dMin_ne : ∀ x e, dMin x ≠ .exc e := fun x e h => by unfold dMin at h; split at h <;> (try split at h) <;> cases h
theorem dSum_ne : ∀ x e, dSum x ≠ .exc e := fun x e h => by unfold dSum at h; split at h <;> (try split at h) <;> cases h
theorem dAll_ne : ∀ x e, dAll x ≠ .exc e := fun x e h => by unfold dAll at h; split at h <;> (try split at h) <;> cases h
theorem dAny_ne : ∀ x e, dAny x ≠ .exc e := fun x e h => by unfold dAny at h; split at h <;> (try split at h) <;> cases h
theorem dInt_ne : ∀ x e, dInt x ≠ .exc e := fun x e h => by unfold dInt at h; split at h <;> (try split at h) <;> cases h
theorem dList_ne : ∀ x e, dList x ≠ .exc e := fun x e h => by unfold dList at h; split at h <;> (try split at h) <;> cases h
theorem dTup_ne : ∀ x e, dTup x ≠ .exc e := fun x e h => by unfold dTup at h; split at h <;> (try split at h) <;> cases h
theorem dDvm_ne : ∀ x e, dDvm x ≠ .exc e := fun x e h => by unfold dDvm at h; split at h <;> (try split at h) <;> cases h
theorem maxI_cons {x : Int} {xs : List Int} (h : xs ≠ []) : maxI (x :: xs) = if maxI xs > x then maxI xs else x := by
  cases xs with
  | nil => exact absurd rfl h
  | cons y ys => rfl
theorem minI_cons {x : Int} {xs : List Int} (h : xs ≠ []) : minI (x :: xs) = if minI xs < x then minI xs else x := by
  cases xs with
  | nil => exact absurd rfl h
  | cons y ys => rfl
theorem maxI_spec : ∀ {xs : List Int}, xs ≠ [] → maxI xs ∈ xs ∧ ∀ y ∈ xs, y ≤ maxI xs
  | [x], _ => by simp [maxI]
  | x :: y :: ys, _ => by
    obtain ⟨h1, h2⟩ := maxI_spec (xs := y :: ys) (by simp)
    rw [maxI_cons (by simp)]
    split
    · rename_i hh
      refine ⟨List.mem_cons_of_mem _ h1, fun z hz => ?_⟩
      rcases List.mem_cons.mp hz with rfl | hz
      · omega
      · exact h2 z hz
    · rename_i hh
      refine ⟨by simp, fun z hz => ?_⟩
      rcases List.mem_cons.mp hz with rfl | hz
      · omega
      · have := h2 z hz; omega
theorem minI_spec : ∀ {xs : List Int}, xs ≠ [] → minI xs ∈ xs ∧ ∀ y ∈ xs, minI xs ≤ y
  | [x], _ => by simp [minI]
  | x :: y :: ys, _ => by
    obtain ⟨h1, h2⟩ := minI_spec (xs := y :: ys) (by simp)
    rw [minI_cons (by simp)]
    split
    · rename_i hh
      refine ⟨List.mem_cons_of_mem _ h1, fun z hz => ?_⟩
      rcases List.mem_cons.mp hz with rfl | hz
      · omega
      · exact h2 z hz
    · rename_i hh
      refine ⟨by simp, fun z hz => ?_⟩
      rcases List.mem_cons.mp hz with rfl | hz
      · omega
      · have := h2 z hz; omega
section
variable {X : Cx}
theorem call_lenD' : CallR X (.builtin "len") (rDn X.K dLen) := by
  intro pins s σ H xs us Q I r ⟨F, ds, z, sm, hx, hz, q⟩
  unfold dLen at hz
  split at hz
  · cases hz
    obtain ⟨v, rfl, h1⟩ := rpA1 hx
    obtain ⟨a, vs, rfl, hq, ha⟩ := rp_list h1
    exact call_len_seq pins s σ H _ us Q I r ⟨_, _, rfl, .inl (SqL.of (sm _ _ hq)), q.here sm (by rw [ha.length]; exact .int _)⟩
  · cases hz
    obtain ⟨v, rfl, h1⟩ := rpA1 hx
    obtain ⟨a, vs, rfl, hq, ha⟩ := rp_tup h1
    exact call_len_seq pins s σ H _ us Q I r ⟨_, _, rfl, .inr (Same.sqt sm hq), q.here sm (by rw [ha.length]; exact .int _)⟩
  · split at hz
    · cases hz
      obtain ⟨v, rfl, h1⟩ := rpA1 hx
      cases rp_str h1
      exact call_len_str pins s σ H _ us Q I r ⟨_, rfl, by assumption, q.here sm (.int _)⟩
    · cases hz
  · cases hz
theorem call_absD : CallR X (.builtin "abs") (rDn X.K dAbs) := by
  intro pins s σ H xs us Q I r ⟨F, ds, z, sm, hx, hz, q⟩
  unfold dAbs at hz
  split at hz
  · cases hz
    obtain ⟨v, rfl, h1⟩ := rpA1 hx
    cases rp_int h1
    exact call_abs pins s σ H _ us Q I r ⟨_, rfl, q.here sm (.int _)⟩
  · cases hz
theorem call_maxD (hc : X.calm = true) : CallR X (.builtin "max") (rDn X.K dMax) := by
  intro pins s σ H xs us Q I r ⟨F, ds, z, sm, hx, hz, q⟩
  unfold dMax at hz
  split at hz
  · cases hz
    obtain ⟨v, w, rfl, h1, h2⟩ := rpA2 hx
    cases rp_int h1; cases rp_int h2
    exact call_max2 hc pins s σ H _ us Q I r ⟨_, _, rfl, q.here sm (.int _)⟩
  · split at hz
    · rename_i e
      cases hz
      obtain ⟨v, rfl, h1⟩ := rpA1 hx
      obtain ⟨a, vs, rfl, hq, ha⟩ := rp_list h1
      cases asInts_rp ha e
      refine cr_max hc pins s σ H _ us Q I r ⟨_, _, rfl, SqL.of (sm _ _ hq), by simp, fun m hm hM => ?_⟩
      obtain ⟨k1, k2⟩ := maxI_spec (xs := _) (List.cons_ne_nil _ _)
      have : m = maxI _ := Int.le_antisymm (k2 m hm) (hM _ k1)
      rw [this]; exact q.here sm (.int _)
    · cases hz
  · cases hz
theorem call_minD (hc : X.calm = true) : CallR X (.builtin "min") (rDn X.K dMin) := by
  intro pins s σ H xs us Q I r ⟨F, ds, z, sm, hx, hz, q⟩
  unfold dMin at hz
  split at hz
  · cases hz
    obtain ⟨v, w, rfl, h1, h2⟩ := rpA2 hx
    cases rp_int h1; cases rp_int h2
    exact call_min2 hc pins s σ H _ us Q I r ⟨_, _, rfl, q.here sm (.int _)⟩
  · split at hz
    · rename_i e
      cases hz
      obtain ⟨v, rfl, h1⟩ := rpA1 hx
      obtain ⟨a, vs, rfl, hq, ha⟩ := rp_list h1
      cases asInts_rp ha e
      refine cr_min hc pins s σ H _ us Q I r ⟨_, _, rfl, SqL.of (sm _ _ hq), by simp, fun m hm hM => ?_⟩
      obtain ⟨k1, k2⟩ := minI_spec (xs := _) (List.cons_ne_nil _ _)
      have : m = minI _ := Int.le_antisymm (hM _ k1) (k2 m hm)
      rw [this]; exact q.here sm (.int _)
    · cases hz
  · cases hz
theorem call_sumD (hc : X.calm = true) : CallR X (.builtin "sum") (rDn X.K dSum) := by
  intro pins s σ H xs us Q I r ⟨F, ds, z, sm, hx, hz, q⟩
  unfold dSum at hz
  split at hz
  · split at hz
    · rename_i e
      cases hz
      obtain ⟨v, rfl, h1⟩ := rpA1 hx
      obtain ⟨a, vs, rfl, hq, ha⟩ := rp_list h1
      cases asInts_rp ha e
      exact cr_sum hc pins s σ H _ us Q I r ⟨_, _, rfl, SqL.of (sm _ _ hq), q.here sm (.int _)⟩
    · cases hz
  · cases hz
theorem call_allD (hc : X.calm = true) : CallR X (.builtin "all") (rDn X.K dAll) := by
  intro pins s σ H xs us Q I r ⟨F, ds, z, sm, hx, hz, q⟩
  unfold dAll at hz
  split at hz
  · split at hz
    · rename_i e
      cases hz
      obtain ⟨v, rfl, h1⟩ := rpA1 hx
      obtain ⟨a, vs, rfl, hq, ha⟩ := rp_list h1
      cases asBools_rp ha e
      exact cr_all hc pins s σ H _ us Q I r ⟨_, _, rfl, SqL.of (sm _ _ hq), q.here sm (.bl _)⟩
    · cases hz
  · cases hz
theorem call_anyD (hc : X.calm = true) : CallR X (.builtin "any") (rDn X.K dAny) := by
  intro pins s σ H xs us Q I r ⟨F, ds, z, sm, hx, hz, q⟩
  unfold dAny at hz
  split at hz
  · split at hz
    · rename_i e
      cases hz
      obtain ⟨v, rfl, h1⟩ := rpA1 hx
      obtain ⟨a, vs, rfl, hq, ha⟩ := rp_list h1
      cases asBools_rp ha e
      exact cr_any hc pins s σ H _ us Q I r ⟨_, _, rfl, SqL.of (sm _ _ hq), q.here sm (.bl _)⟩
    · cases hz
  · cases hz
theorem call_intD : CallR X (.type "int") (rDn X.K dInt) := by
  intro pins s σ H xs us Q I r ⟨F, ds, z, sm, hx, hz, q⟩
  unfold dInt at hz
  split at hz
  · cases hz
    obtain ⟨v, rfl, h1⟩ := rpA1 hx
    cases rp_int h1
    exact call_int1 pins s σ H _ us Q I r (.inl ⟨_, rfl, q.here sm (.int _)⟩)
  · cases hz
    obtain ⟨v, rfl, h1⟩ := rpA1 hx
    cases rp_bl h1
    exact call_int1 pins s σ H _ us Q I r (.inr ⟨_, rfl, q.here sm (.int _)⟩)
  · cases hz
theorem call_listD : CallR X (.type "list") (rDn X.K dList) := by
  intro pins s σ H xs us Q I r ⟨F, ds, z, sm, hx, hz, q⟩
  unfold dList at hz
  split at hz
  · cases hz
    obtain ⟨v, rfl, h1⟩ := rpA1 hx
    obtain ⟨a, vs, rfl, hq, ha⟩ := rp_list h1
    exact call_list_of pins s σ H _ us Q I r ⟨_, _, rfl, .inl (SqL.of (sm _ _ hq)), fun p hp => q.list sm hp ha⟩
  · cases hz
    obtain ⟨v, rfl, h1⟩ := rpA1 hx
    obtain ⟨a, vs, rfl, hq, ha⟩ := rp_tup h1
    exact call_list_of pins s σ H _ us Q I r ⟨_, _, rfl, .inr (Same.sqt sm hq), fun p hp => q.list sm hp ha⟩
  · cases hz
theorem call_tupD : CallR X (.type "tuple") (rDn X.K dTup) := by
  intro pins s σ H xs us Q I r ⟨F, ds, z, sm, hx, hz, q⟩
  unfold dTup at hz
  split at hz
  · cases hz
    obtain ⟨v, rfl, h1⟩ := rpA1 hx
    obtain ⟨a, vs, rfl, hq, ha⟩ := rp_list h1
    exact call_tuple_of pins s σ H _ us Q I r ⟨_, _, rfl, .inl ⟨SqL.of (sm _ _ hq), fun p hp => q.tup sm hp ha⟩⟩
  · cases hz
    obtain ⟨v, rfl, h1⟩ := rpA1 hx
    obtain ⟨a, vs, rfl, hq, ha⟩ := rp_tup h1
    exact call_tuple_of pins s σ H _ us Q I r ⟨_, _, rfl, .inr ⟨Same.sqt sm hq, q.here sm h1⟩⟩
  · cases hz
theorem call_dvmD : CallR X (.builtin "divmod") (rDn X.K dDvm) := by
  intro pins s σ H xs us Q I r ⟨F, ds, z, sm, hx, hz, q⟩
  unfold dDvm at hz
  split at hz
  · split at hz
    · rename_i hh
      cases hz
      obtain ⟨v, w, rfl, h1, h2⟩ := rpA2 hx
      cases rp_int h1; cases rp_int h2
      exact call_divmod pins s σ H _ us Q I r ⟨_, _, rfl, hh, fun p hp => q.tup sm hp (.cons (.int _) (.cons (.int _) .nil))⟩
    · cases hz
  · cases hz
end
end PD

namespace PD
open PySem PySem.Spec PyProof.Rows L2

/-! ### isinstance -/
inductive Ty where
  | int | str | tuple | list | bool | dict
def Ty.nm : Ty → String
  | .int => "int"
  | .str => "str"
  | .tuple => "tuple"
  | .list => "list"
  | .bool => "bool"
  | .dict => "dict"
def isTy : Ty → PyData → Bool
  | .int, .int _ => true
  | .int, .bool _ => true
  | .str, .str _ => true
  | .tuple, .tuple _ => true
  | .list, .list _ => true
  | .bool, .bool _ => true
  | .dict, .dict _ => true
  | _, _ => false
def tyN : PyData → String
  | .none => "NoneType"
  | .bool _ => "bool"
  | .int _ => "int"
  | .str _ => "str"
  | .list _ => "list"
  | .tuple _ => "tuple"
  | .dict _ => "dict"
theorem kit_tab : ([Ty.int, .str, .tuple, .list, .bool, .dict].all fun t => [PyData.none, .bool true, .int 0, .str "", .list [], .tuple [], .dict []].all fun x => kitB (tyN x) t.nm == some (isTy t x)) = true := by decide +kernel
theorem kit_isTy (t : Ty) (x : PyData) : kitB (tyN x) t.nm = some (isTy t x) := by
  have h := kit_tab
  rw [List.all_eq_true] at h
  have ht : t ∈ [Ty.int, .str, .tuple, .list, .bool, .dict] := by cases t <;> simp
  have h2 := h t ht
  rw [List.all_eq_true] at h2
  have key : ∀ y, y ∈ [PyData.none, .bool true, .int 0, .str "", .list [], .tuple [], .dict []] → kitB (tyN y) t.nm = some (isTy t y) := fun y hy => eq_of_beq (h2 y hy)
  cases x with
  | none => exact key .none (by simp)
  | bool b => have k := key (.bool true) (by simp); cases t <;> exact k
  | int b => have k := key (.int 0) (by simp); cases t <;> exact k
  | str b => have k := key (.str "") (by simp); cases t <;> exact k
  | list b => have k := key (.list []) (by simp); cases t <;> exact k
  | tuple b => have k := key (.tuple []) (by simp); cases t <;> exact k
  | dict b => have k := key (.dict []) (by simp); cases t <;> exact k
theorem Rp.ty {K : PySem.W.Frag} {F H : Hp} (sm : Same F H) {v : V} {x : PyData} (h : Rp K F v x) : TyX K H v (.type (tyN x)) := by
  cases h with
  | non => exact .base .non
  | bl b => exact .base (.bl b)
  | int i => exact .base (.int i)
  | str x => exact .base (.str x)
  | lst hs _ => exact .base (.lst (sm _ _ hs))
  | tup hs _ =>
    rcases hs with (hs | ⟨o, hs⟩) | ⟨o, its, n, hk, hc, _⟩
    · exact .base (.tup (sm _ _ hs))
    · exact .fTuple (sm _ _ hs)
    · exact .kTuple hk hc
  | @dic a o ps kvs hr hp hk _ =>
    cases o with
    | dK kk => exact .base (.dK (sm _ _ hr))
    | dT kk => exact .base (.dT (sm _ _ hr))
    | _ => cases hp
def eIsi (ts : List Ty) (f : Sls → Res (PyData × Sls)) : Sls → Res (PyData × Sls) := fun S => (f S).bind fun p => .ok (.bool (ts.any (isTy · p.1)), p.2)
section
variable {K : PySem.W.Frag} {mg : Str → Option Value} {E : XK} {X : Cx} {F H : Hp} {σ : Sg} {S S' : Sls} {f : Sls → Res (PyData × Sls)} {e : Expr} {p p1 p2 p3 pos : Pos}
theorem isi_read {ts : List Ty} {Q : VK} (h : tE K mg E (eIsi ts f) σ H Q) : tE K mg E f σ H fun v H1 => ∃ F x, Same F H1 ∧ Rp K F v x ∧ ∀ F' H', Grow F H1 F' H' → Q (.bl (ts.any (isTy · x))) H' := by
  obtain ⟨F, S, R, q⟩ := h
  refine ⟨F, S, R, ?_⟩
  unfold eIsi at q
  cases ea : f S with
  | bad => rw [ea] at q; exact q
  | exc e => rw [ea] at q; exact q
  | ok p =>
    obtain ⟨x, S1⟩ := p
    rw [ea] at q
    intro v F1 H1 A1 r1
    exact ⟨F1, x, A1.str.same, r1, fun F' H' g => q _ F' H' (A1.trans (Aft.grow A1.str g)) (.bl _)⟩
theorem pe_isi1 (t : Ty) (he : PE X e (tE X.K mg E f)) (hg : Gl X "isinstance") (hm : X.mg "isinstance" = none) (hg2 : Gl X (Str.ofString t.nm)) (hm2 : X.mg (Str.ofString t.nm) = none)
    (hs : starEach [e, .Name (Str.ofString t.nm) p2] X.env = (false, eval e X.env) :: starEach [.Name (Str.ofString t.nm) p2] X.env := by rfl) (hs2 : starEach [.Name (Str.ofString t.nm) p2] X.env = (false, eval (.Name (Str.ofString t.nm) p2) X.env) :: starEach [] X.env := by rfl)
    (hpl : (backTo pos (starEach [.Name (Str.ofString t.nm) p2] X.env)).any (·.1) = false := by rfl) :
    PE X (.Call (.Name "isinstance" p) [e, .Name (Str.ofString t.nm) p2] [] pos) (tE X.K mg E (eIsi [t] f)) := by
  have hb : bootBuiltins (Str.ofString t.nm) = some (.type t.nm) := by cases t <;> decide +kernel
  refine (pe_callB call_isi hg hm PyProof.Rows.boot_isinstance (pa_cons he (pa_cons (pe_bltn hg2 hm2 hb (v := .ty t.nm) rfl (by cases t <;> decide) (by cases t <;> decide)) pa_nil hs2) hs) (by decide) (by decide) hs hpl).imp fun σ H Q h => ?_
  obtain ⟨F, S, R, q⟩ := isi_read h
  refine ⟨F, S, R, ?_⟩
  cases ea : f S with
  | bad => rw [ea] at q; exact q
  | exc e => rw [ea] at q; exact q
  | ok pr =>
    obtain ⟨x, S1⟩ := pr
    rw [ea] at q
    intro v F1 H1 A1 r1
    obtain ⟨F2, y, sm, ry, q2⟩ := q v F1 H1 A1 r1
    exact ⟨v, _, _, _, _, rfl, .ty _, ry.ty sm, kit_ty (kit_isTy t y), by have := q2 F2 H1 (Grow.refl sm); simpa using this⟩
theorem pe_isi2 {kk : Nat} (t u : Ty) (he : PE X e (tE X.K mg E f)) (hg : Gl X "isinstance") (hm : X.mg "isinstance" = none) (hg2 : Gl X (Str.ofString t.nm)) (hm2 : X.mg (Str.ofString t.nm) = none) (hg3 : Gl X (Str.ofString u.nm)) (hm3 : X.mg (Str.ofString u.nm) = none)
    {pt : Pos} (hs : starEach [e, .Tuple [.Name (Str.ofString t.nm) p2, .Name (Str.ofString u.nm) p3] kk pt] X.env = (false, eval e X.env) :: starEach [.Tuple [.Name (Str.ofString t.nm) p2, .Name (Str.ofString u.nm) p3] kk pt] X.env := by rfl) (hs2 : starEach [.Tuple [.Name (Str.ofString t.nm) p2, .Name (Str.ofString u.nm) p3] kk pt] X.env = (false, eval (.Tuple [.Name (Str.ofString t.nm) p2, .Name (Str.ofString u.nm) p3] kk pt) X.env) :: starEach [] X.env := by rfl)
    (hs3 : starEach [.Name (Str.ofString t.nm) p2, .Name (Str.ofString u.nm) p3] X.env = (false, eval (.Name (Str.ofString t.nm) p2) X.env) :: starEach [.Name (Str.ofString u.nm) p3] X.env := by rfl) (hs4 : starEach [.Name (Str.ofString u.nm) p3] X.env = (false, eval (.Name (Str.ofString u.nm) p3) X.env) :: starEach [] X.env := by rfl)
    (hpl : (backTo pos (starEach [.Tuple [.Name (Str.ofString t.nm) p2, .Name (Str.ofString u.nm) p3] kk pt] X.env)).any (·.1) = false := by rfl) :
    PE X (.Call (.Name "isinstance" p) [e, .Tuple [.Name (Str.ofString t.nm) p2, .Name (Str.ofString u.nm) p3] kk pt] [] pos) (tE X.K mg E (eIsi [t, u] f)) := by
  have hb : ∀ t : Ty, bootBuiltins (Str.ofString t.nm) = some (.type t.nm) := fun t => by cases t <;> decide +kernel
  have hn : ∀ t : Ty, Str.ofString t.nm ≠ "__name__" := fun t => by cases t <;> decide
  have hd : ∀ t : Ty, (Str.ofString t.nm == ("__debug__" : Str)) = false := fun t => by cases t <;> decide
  refine (pe_callB call_isiT hg hm PyProof.Rows.boot_isinstance (pa_cons he (pa_cons (pe_tup (pa_cons (pe_bltn hg2 hm2 (hb t) (v := .ty t.nm) rfl (hn t) (hd t)) (pa_cons (pe_bltn hg3 hm3 (hb u) (v := .ty u.nm) rfl (hn u) (hd u)) pa_nil hs4) hs3)) pa_nil hs2) hs) (by decide) (by decide) hs hpl).imp fun σ H Q h => ?_
  obtain ⟨F, S, R, q⟩ := isi_read h
  refine ⟨F, S, R, ?_⟩
  cases ea : f S with
  | bad => rw [ea] at q; exact q
  | exc e => rw [ea] at q; exact q
  | ok pr =>
    obtain ⟨x, S1⟩ := pr
    rw [ea] at q
    intro v F1 H1 A1 r1
    obtain ⟨F2, y, sm, ry, q2⟩ := q v F1 H1 A1 r1
    refine ⟨small_line (show (2 : Nat) ≤ 1000 by decide), fun p hp => ?_⟩
    have g := Grow.new (o := .tup [.ty t.nm, .ty u.nm]) sm hp
    refine ⟨v, p, _, _, [.type t.nm, .type u.nm], isTy t y || isTy u y, rfl, upd_same, .cons (.ty _) (.cons (.ty _) .nil), (ry.mono g.ext.ff).ty g.same, ?_, by have := q2 _ _ g; simpa using this⟩
    refine kitAny_cons (kit_ty (kit_isTy t y)) (fun h1 => kitAny_cons (kit_ty (kit_isTy u y)) (fun h2 => ?_) fun h2 => ?_) fun h1 => ?_
    · rw [h1, h2]; rfl
    · rw [h1, h2]; rfl
    · rw [h1]; rfl
end
end PD

namespace PD
open PySem PySem.Spec PyProof.Rows L2

/-! ### repr, str -/
mutual
def onlyE : PyData → Bool
  | .list xs => onlyEAll xs
  | .tuple xs => onlyEAll xs
  | .dict kvs => kvs.isEmpty
  | _ => true
def onlyEAll : List PyData → Bool
  | [] => true
  | x :: xs => onlyE x && onlyEAll xs
end
section
variable {X : Cx} {pins : List (Addr × Obj)} {F H : Hp} {σ : Sg} {s : Shared}
def AllT (I : List PyData) : Prop := ∀ t ∈ PyData.shownAll I, t.length ≤ sizeLine
theorem dict_nil (sm : Same F H) (I : Inv X pins σ H s) {a : Addr} {o : HO} {ps : List (PyData × V)} (hr : F a = some o) (hp : dictPairs o = some ps) (hn : ps = []) :
    ∃ ob ep, s.heap.get? a = some ob ∧ ob.cls = .type "dict" ∧ ob.data = .dict #[] ep ∧ (a == sysModules) = false := by
  have ok := I.hok _ _ (sm _ _ hr)
  subst hn
  cases o with
  | dK kk =>
    obtain ⟨_, hs, vs, rel, ob, es, ep, e1, e2, e3, e4, e5⟩ := ok
    have hk : kk = [] := by
      cases kk with
      | nil => rfl
      | cons _ _ => cases hp
    subst hk
    cases rel
    have hes : es = #[] := by
      have := e5.1.length
      exact Array.toList_eq_nil_iff.mp (List.eq_nil_of_length_eq_zero this)
    subst hes
    exact ⟨ob, ep, e1, e2.1, e3, hs⟩
  | dT kk =>
    obtain ⟨_, hs, xs, rel, ob, es, ep, e1, e2, e3, e4, e5⟩ := ok
    have hk : kk = [] := by
      cases kk with
      | nil => rfl
      | cons _ _ => cases hp
    subst hk
    cases rel
    have hes : es = #[] := Array.toList_eq_nil_iff.mp (by rw [e4]; rfl)
    subst hes
    exact ⟨ob, ep, e1, e2.1, e3, hs⟩
  | _ => cases hp
theorem Rp.reprK {prog : Program} {w : World} (I : Inv X pins σ H s) (sm : Same F H) {v : V} {d : PyData} (h : Rp X.K F v d) : ∀ u, RelV v u → d.showable = true → onlyE d = true → d.shown.length ≤ sizeLine →
    ∃ bs, ReadAtMost s.heap d.depth bs ∧ ReprK prog w bs s.heap d.depth u d.shown := by
  refine Rp.rec (motive_1 := fun v d _ => ∀ u, RelV v u → d.showable = true → onlyE d = true → d.shown.length ≤ sizeLine → ∃ bs, ReadAtMost s.heap d.depth bs ∧ ReprK prog w bs s.heap d.depth u d.shown)
    (motive_2 := fun vs ds _ => ∀ us, Vals vs us → PyData.showableAll ds = true → onlyEAll ds = true → AllT ds → ∃ bs, ReadAtMost s.heap (PyData.depthAll ds) bs ∧ ReprAllK prog w bs s.heap (PyData.depthAll ds) us (PyData.shownAll ds)) ?_ ?_ ?_ ?_ ?_ ?_ ?_ ?_ ?_ h
  · rintro u rfl _ _ _; exact ⟨[], (fun _ z => nomatch z), by simp only [PyData.shown]; exact .of_is ReprIs.none _ _ _⟩
  · rintro b u rfl _ _ _; exact ⟨[], (fun _ z => nomatch z), by simp only [PyData.shown]; exact .of_is (ReprIs.bool b) _ _ _⟩
  · rintro i u ⟨t, rfl⟩ hs _ _; exact ⟨[], (fun _ z => nomatch z), by simp only [PyData.shown]; exact .of_is (ReprIs.int t (by simpa [PyData.showable] using hs)) _ _ _⟩
  · rintro x u ⟨t, rfl⟩ _ _ hz; exact ⟨[], (fun _ z => nomatch z), by simp only [PyData.shown]; exact .of_is (ReprIs.str x t (by simpa only [PyData.shown] using hz)) _ _ _⟩
  · rintro a vs ds hs ha ih u rfl h1 h2 h3
    obtain ⟨as, r⟩ := (Rp.lst (K := X.K) hs ha).reads I sm (.ref a) rfl
    obtain ⟨its, rv, ⟨o, n, ho, hc, _, hd⟩, _⟩ := I.list (SqL.of (K := X.K) (sm _ _ hs))
    have hz : (listText (PyData.shownAll ds)).length ≤ sizeLine := by simpa only [PyData.shown] using h3
    obtain ⟨bs, hb, hk⟩ := ih its rv (by simpa [PyData.showable] using h1) (by simpa [onlyE] using h2) fun t ht => Nat.le_trans (listText_mem_le ht) hz
    have hna : a ∉ bs := not_mem_of_deeper r (by simp only [PyData.depth]; omega) hb
    refine ⟨a :: bs, ReadAtMost.cons r (by simp only [PyData.depth]; omega) hb, ?_⟩
    simp only [PyData.depth, PyData.shown]
    cases its with
    | nil =>
      cases rv; cases ha
      simp only [PyData.shownAll, listText_nil]
      exact ReprK.listEmpty ho hc hd
    | cons x l => exact ReprK.list ho hc hd hna (by simpa using hk.length_eq) (fun i y e => hk.item i y (by simpa using e))
  · rintro a vs ds hs ha ih u rfl h1 h2 h3
    obtain ⟨as, r⟩ := (Rp.tup hs ha).reads I sm (.ref a) rfl
    obtain ⟨its, rv, ⟨o, ho, hc, n, hd⟩, _⟩ := I.tuple (Same.sqt sm hs)
    have hz : (tupleText (PyData.shownAll ds)).length ≤ sizeLine := by simpa only [PyData.shown] using h3
    obtain ⟨bs, hb, hk⟩ := ih its rv (by simpa [PyData.showable] using h1) (by simpa [onlyE] using h2) fun t ht => Nat.le_trans (tupleText_mem_le ht) hz
    have hna : a ∉ bs := not_mem_of_deeper r (by simp only [PyData.depth]; omega) hb
    refine ⟨a :: bs, ReadAtMost.cons r (by simp only [PyData.depth]; omega) hb, ?_⟩
    simp only [PyData.depth, PyData.shown]
    exact ReprK.tuple ho hc hd hna hk
  · rintro a o ps kvs hr hp hk ha _ u rfl h1 h2 h3
    obtain ⟨as, r⟩ := (Rp.dic (K := X.K) hr hp hk ha).reads I sm (.ref a) rfl
    have e : kvs = [] := by
      simpa [onlyE] using h2
    subst e
    have hps : ps = [] := List.map_eq_nil_iff.mp hk
    obtain ⟨ob, ep, e1, e2, e3, e4⟩ := dict_nil sm I hr hp hps
    refine ⟨a :: [], ReadAtMost.cons (n := 0) r (Nat.zero_le _) (fun _ z => nomatch z), ?_⟩
    simp only [PyData.depth, PyData.shown, PyData.shownKv_eq]
    exact ReprK.dict e1 e2 e3 e4 (fun z => nomatch z) (ReprEntriesK.of_two [] [] [] .nil .nil)
  · rintro us r _ _ _; cases r; exact ⟨[], (fun _ z => nomatch z), by simp only [PyData.shownAll]; exact .nil⟩
  · rintro v vs d ds _ _ i1 i2 us r h1 h2 h3
    cases r with
    | cons r1 r2 =>
      have g1 : d.showable = true ∧ PyData.showableAll ds = true := by simpa [PyData.showableAll] using h1
      have g2 : onlyE d = true ∧ onlyEAll ds = true := by simpa [onlyEAll] using h2
      obtain ⟨b1, hb1, k1⟩ := i1 _ r1 g1.1 g2.1 (h3 _ (by simp only [PyData.shownAll]; exact List.mem_cons_self ..))
      obtain ⟨b2, hb2, k2⟩ := i2 _ r2 g1.2 g2.2 fun t ht => h3 t (by simp only [PyData.shownAll]; exact List.mem_cons_of_mem _ ht)
      refine ⟨b1 ++ b2, ?_, ?_⟩
      · simp only [PyData.depthAll]
        exact (hb1.mono (Nat.le_max_left _ _)).append (hb2.mono (Nat.le_max_right _ _))
      · simp only [PyData.depthAll, PyData.shownAll]
        exact .cons ((k1.more fun b hb => List.mem_append_left _ hb).level_le (Nat.le_max_left _ _)) (k2.more_le (fun b hb => List.mem_append_right _ hb) (Nat.le_max_right _ _))
theorem RpA.reprK {prog : Program} {w : World} (I : Inv X pins σ H s) (sm : Same F H) : ∀ {ds : List PyData} {vs : List V} {us : List Value}, RpA X.K F vs ds → Vals vs us → PyData.showableAll ds = true → onlyEAll ds = true → AllT ds →
    ∃ bs, ReadAtMost s.heap (PyData.depthAll ds) bs ∧ ReprAllK prog w bs s.heap (PyData.depthAll ds) us (PyData.shownAll ds)
  | [], _, _, h, r, _, _, _ => by cases h; cases r; exact ⟨[], (fun _ z => nomatch z), by simp only [PyData.shownAll]; exact .nil⟩
  | d :: ds, _, _, h, r, h1, h2, h3 => by
    cases h with
    | cons q1 q2 =>
      cases r with
      | cons r1 r2 =>
        have g1 : d.showable = true ∧ PyData.showableAll ds = true := by simpa [PyData.showableAll] using h1
        have g2 : onlyE d = true ∧ onlyEAll ds = true := by simpa [onlyEAll] using h2
        obtain ⟨b1, hb1, k1⟩ := q1.reprK (prog := prog) (w := w) I sm _ r1 g1.1 g2.1 (h3 _ (by simp only [PyData.shownAll]; exact List.mem_cons_self ..))
        obtain ⟨b2, hb2, k2⟩ := RpA.reprK (prog := prog) (w := w) I sm q2 r2 g1.2 g2.2 fun t ht => h3 t (by simp only [PyData.shownAll]; exact List.mem_cons_of_mem _ ht)
        refine ⟨b1 ++ b2, ?_, ?_⟩
        · simp only [PyData.depthAll]
          exact (hb1.mono (Nat.le_max_left _ _)).append (hb2.mono (Nat.le_max_right _ _))
        · simp only [PyData.depthAll, PyData.shownAll]
          exact .cons ((k1.more fun b hb => List.mem_append_left _ hb).level_le (Nat.le_max_left _ _)) (k2.more_le (fun b hb => List.mem_append_right _ hb) (Nat.le_max_right _ _))
theorem Rp.shows {prog : Program} {w : World} (I : Inv X pins σ H s) (sm : Same F H) {a : Addr} {d : PyData} (h : Rp X.K F (.ref a) d) (h1 : d.showable = true) (h2 : onlyE d = true) (h3 : d.shown.length ≤ sizeLine) : ∃ T idr, ShowsBy prog w s.heap a d T idr := by
  obtain ⟨as, r⟩ := h.reads I sm (.ref a) rfl
  cases h with
  | @lst _ vs ds hs ha =>
    obtain ⟨its, rv, ⟨o, n, ho, hc, _, hd⟩, _⟩ := I.list (SqL.of (K := X.K) (sm _ _ hs))
    have hz : (listText (PyData.shownAll ds)).length ≤ sizeLine := by simpa only [PyData.shown] using h3
    obtain ⟨bs, hb, hk⟩ := ha.reprK (prog := prog) (w := w) I sm rv (by simpa [PyData.showable] using h1) (by simpa [onlyE] using h2) fun t ht => Nat.le_trans (listText_mem_le ht) hz
    have hna : a ∉ bs := not_mem_of_deeper r (by simp only [PyData.depth]; omega) hb
    refine ⟨"list", "list.__repr__", PySem.F.slot_list_repr.toG, PySem.F.slot_list_str, PySem.F.slot_list_format, fun s hk0 => ⟨o, hk0 _ _ ho, hc⟩, fun A E s Q hg hu hk0 hQ => ?_⟩
    simp only [PyData.depth] at hu
    simp only [PyData.shown] at hQ
    cases its with
    | nil =>
      cases rv; cases ha
      simp only [PyData.shownAll, listText_nil] at hQ
      exact call_list_repr_empty ⟨o, hk0 _ _ ho, hc⟩ (hk0 _ _ ho) hd (hQ s.heap _ _ fun _ _ e => e)
    | cons x l => exact call_list_reprK ho hc hd hna (by simpa using hk.length_eq) (fun i y e => hk.item i y (by simpa using e)) hg (fun b _ => Clear.nil b) hu hk0 hQ hz
  | @tup _ vs ds hs ha =>
    obtain ⟨its, rv, ⟨o, ho, hc, n, hd⟩, _⟩ := I.tuple (Same.sqt sm hs)
    have hz : (tupleText (PyData.shownAll ds)).length ≤ sizeLine := by simpa only [PyData.shown] using h3
    obtain ⟨bs, hb, hk⟩ := ha.reprK (prog := prog) (w := w) I sm rv (by simpa [PyData.showable] using h1) (by simpa [onlyE] using h2) fun t ht => Nat.le_trans (tupleText_mem_le ht) hz
    have hna : a ∉ bs := not_mem_of_deeper r (by simp only [PyData.depth]; omega) hb
    refine ⟨"tuple", "tuple.__repr__", PySem.F.slot_tuple_repr, PySem.F.slot_tuple_str, PySem.F.slot_tuple_format, fun s hk0 => ⟨o, hk0 _ _ ho, hc⟩, fun A E s Q hg hu hk0 hQ => ?_⟩
    simp only [PyData.depth] at hu
    simp only [PyData.shown] at hQ
    exact call_tuple_reprK ho hc hd hna hk hg (fun b _ => Clear.nil b) hu hk0 hQ hz
  | @dic _ o ps kvs hr hp hk ha =>
    have e : kvs = [] := by simpa [onlyE] using h2
    subst e
    have hps : ps = [] := List.map_eq_nil_iff.mp hk
    obtain ⟨ob, ep, e1, e2, e3, e4⟩ := dict_nil sm I hr hp hps
    refine ⟨"dict", "dict.__repr__", PySem.F.slot_dict_repr, PySem.F.slot_dict_str, PySem.F.slot_dict_format, fun s hk0 => ⟨ob, hk0 _ _ e1, e2⟩, fun A E s Q hg hu hk0 hQ => ?_⟩
    simp only [PyData.depth] at hu
    simp only [PyData.shown, PyData.shownKv_eq] at hQ
    exact call_dict_reprK (as := []) e1 e2 e3 e4 (fun z => nomatch z) (ReprEntriesK.of_two [] [] [] .nil .nil) hg (fun b _ => Clear.nil b) hu hk0 hQ (by decide)
end
def showOk (d : PyData) : Bool := d.showable && onlyE d && decide (d.shown.length ≤ sizeLine) && decide (d.depth ≤ 60)
theorem showOk_inv {d : PyData} (h : showOk d = true) : d.showable = true ∧ onlyE d = true ∧ d.shown.length ≤ sizeLine ∧ d.depth ≤ 60 := by
  unfold showOk at h
  simp only [Bool.and_eq_true, decide_eq_true_eq] at h
  exact ⟨h.1.1.1, h.1.1.2, h.1.2, h.2⟩
def dRepr : List PyData → Res Sl
  | [x] => if showOk x = true then .ok (.d (.str x.shown)) else .bad
  | _ => .bad
/-- str(x) -/
def strT : PyData → Str
  | .str x => x
  | x => x.shown
def strOk : PyData → Bool
  | .dict kvs => kvs.isEmpty
  | x => showOk x && !x.hasDict
def dStr : List PyData → Res Sl
  | [x] => if strOk x = true then .ok (.d (.str (strT x))) else .bad
  | _ => .bad
theorem dRepr_ne : ∀ x e, dRepr x ≠ .exc e := fun x e h => by unfold dRepr at h; split at h <;> (try split at h) <;> cases h
theorem dStr_ne : ∀ x e, dStr x ≠ .exc e := fun x e h => by unfold dStr at h; split at h <;> (try split at h) <;> cases h
section
variable {X : Cx}
theorem show_atom {x : PyData} {v : V} {K : PySem.W.Frag} {F : Hp} (h : Rp K F v x) : (∃ a, v = .ref a) ∨ x = .none ∨ (∃ b, x = .bool b) ∨ (∃ i, x = .int i) ∨ ∃ z, x = .str z := by
  cases h with
  | non => exact .inr (.inl rfl)
  | bl b => exact .inr (.inr (.inl ⟨_, rfl⟩))
  | int i => exact .inr (.inr (.inr (.inl ⟨_, rfl⟩)))
  | str z => exact .inr (.inr (.inr (.inr ⟨_, rfl⟩)))
  | lst _ _ => exact .inl ⟨_, rfl⟩
  | tup _ _ => exact .inl ⟨_, rfl⟩
  | dic _ _ _ _ => exact .inl ⟨_, rfl⟩
theorem call_reprD (hgd : X.A.guards = some []) (hu : X.A.units + 64 < cLine) : CallR X (.builtin "repr") (rDn X.K dRepr) := by
  intro pins s σ H xs us Q I r ⟨F, ds, z, sm, hx, hz, q⟩
  unfold dRepr at hz
  split at hz
  · split at hz
    · rename_i d hh
      cases hz
      obtain ⟨h1, h2, h3, h4⟩ := showOk_inv hh
      obtain ⟨v, rfl, hv⟩ := rpA1 hx
      obtain ⟨u, rfl, ru⟩ := vals1 r
      rcases show_atom hv with ⟨a, rfl⟩ | rfl | ⟨b, rfl⟩ | ⟨i, rfl⟩ | ⟨z, rfl⟩
      · cases ru
        obtain ⟨T, idr, W⟩ := hv.shows (prog := X.prog) (w := X.w) I sm h1 h2 h3
        exact call_repr_slot (by omega) (W.typeIs s fun _ _ e => e) W.slotRepr (W.call X.A.in1 X.xe s _ hgd (by show X.A.units + 1 + d.depth < cLine; omega) (fun _ _ e => e) fun h' u tk hk => ⟨_, _, rfl, .str _, H, I.kept hk, ⟨_, rfl⟩, q.here sm (.str _)⟩)
      · cases rp_non hv; cases ru
        exact PySem.P.repr_of_none ⟨.str _, H, I.tok _, ⟨_, rfl⟩, q.here sm (.str _)⟩
      · cases rp_bl hv; cases ru
        exact PySem.P.repr_of_bool ⟨.str _, H, I.tok _, ⟨_, rfl⟩, q.here sm (.str _)⟩
      · cases rp_int hv
        obtain ⟨t, rfl⟩ := ru
        exact PySem.P.repr_of_int (by simpa [PyData.showable] using h1) ⟨.str _, H, I.tok _, ⟨_, rfl⟩, q.here sm (.str _)⟩
      · cases rp_str hv
        obtain ⟨t, rfl⟩ := ru
        exact PySem.P.repr_of_str ⟨.str _, H, I.tok _, ⟨_, rfl⟩, q.here sm (.str _)⟩ (by simpa only [PyData.shown] using h3)
    · cases hz
  · cases hz
theorem strOk_inv {d : PyData} (h : strOk d = true) : (showOk d = true ∧ d.hasDict = false) ∨ d = .dict [] := by
  unfold strOk at h
  split at h
  · rename_i kvs
    cases kvs with
    | nil => exact .inr rfl
    | cons _ _ => cases h
  · rw [Bool.and_eq_true] at h
    exact .inl ⟨h.1, by simpa using h.2⟩
theorem strOk_at {i : Int} (h : strOk (.int i) = true) : showOk (.int i) = true := by
  rcases strOk_inv h with h | h
  · exact h.1
  · cases h
theorem call_strD (hgd : X.A.guards = some []) (hu : X.A.units + 64 < cLine) : CallR X (.type "str") (rDn X.K dStr) := by
  intro pins s σ H xs us Q I r ⟨F, ds, z, sm, hx, hz, q⟩
  unfold dStr at hz
  split at hz
  · split at hz
    · rename_i d hh
      cases hz
      obtain ⟨v, rfl, hv⟩ := rpA1 hx
      obtain ⟨u, rfl, ru⟩ := vals1 r
      rcases show_atom hv with ⟨a, rfl⟩ | rfl | ⟨b, rfl⟩ | ⟨i, rfl⟩ | ⟨z, rfl⟩
      · cases ru
        have hq : strT d = d.shown := by cases hv <;> rfl
        rw [hq] at q
        rcases strOk_inv hh with ⟨h0, hd⟩ | rfl
        · obtain ⟨h1, h2, h3, h4⟩ := showOk_inv h0
          obtain ⟨as, r1⟩ := hv.reads I sm (.ref a) rfl
          exact PySem.str_of_reads r1 h1 (fun e => by rw [hd] at e; cases e) hgd (by omega) (fun _ _ e => e) (fun h' u tk hk => ⟨.str _, H, I.kept hk, ⟨_, rfl⟩, q.here sm (.str _)⟩) h3
        · cases hv with
          | dic hr hp hk ha =>
            obtain ⟨ob, ep, e1, e2, e3, e4⟩ := dict_nil sm I hr hp (List.map_eq_nil_iff.mp hk)
            exact PySem.str_of_reads (Reads.dict (kvs := []) e1 e2 e3 .nil .nil) (by decide) (fun _ z => by simp at z; rw [z] at e4; simp at e4) hgd (by show X.A.units + (_ + 3) < cLine; simp only [PyData.depth, PyData.depthKv]; omega) (fun _ _ e => e) (fun h' u tk hk => ⟨.str _, H, I.kept hk, ⟨_, rfl⟩, q.here sm (.str _)⟩) (by decide)
      · cases rp_non hv; cases ru
        exact PySem.P.str_of_none ⟨.str _, H, I.tok _, ⟨_, rfl⟩, q.here sm (.str _)⟩
      · cases rp_bl hv; cases ru
        exact PySem.P.str_of_bool ⟨.str _, H, I.tok _, ⟨_, rfl⟩, q.here sm (.str _)⟩
      · cases rp_int hv
        obtain ⟨t, rfl⟩ := ru
        have h1 := (showOk_inv (strOk_at hh)).1
        exact PySem.P.str_of_int (by simpa [PyData.showable] using h1) ⟨.str _, H, I.tok _, ⟨_, rfl⟩, q.here sm (.str _)⟩
      · cases rp_str hv
        obtain ⟨t, rfl⟩ := ru
        exact PySem.P.str_of_str ⟨.str _, H, I, ⟨_, rfl⟩, q.here sm (.str _)⟩
    · cases hz
  · cases hz
end
end PD

namespace PD
open PySem PySem.Spec PyProof.Rows L2
section
variable {K : PySem.W.Frag} {mg : Str → Option Value} {E : XK} {P : List Nat} {X : Cx} {F H F' H' : Hp} {σ : Sg} {S S' : Sls}

/-! ### an owned list is written -/
theorem StR.put {i : Nat} {a : Addr} {xs ys : List PyData} {vs : List V} (R : StR K F H σ S) (h1 : σ[i]? = some (some (.ref a))) (h2 : S[i]? = some (.ol xs)) (r : RpA K F vs ys) :
    Aft K P F H σ S F (upd H a (.lst vs)) σ (S.set i (.ol ys)) := by
  have ownA : Own σ S a := ⟨i, _, _, h1, h2, rfl⟩
  obtain ⟨hF, hH⟩ := R.own_none ownA
  have own2 : ∀ c, Own σ (S.set i (.ol ys)) c → Own σ S c := fun c ⟨j, o, y, g1, g2, g3⟩ => by
    rcases get_set g2 with ⟨rfl, rfl⟩ | ⟨_, g2⟩
    · rw [h1] at g1; cases g1; cases g3; exact ownA
    · exact ⟨j, o, y, g1, g2, g3⟩
  have other : ∀ j o y c, i ≠ j → σ[j]? = some o → S[j]? = some y → ow o y = some c → c ≠ a := fun j o y c ne g1 g2 g3 e => by
    subst e
    exact ne (R.dis i j _ _ _ _ c h1 h2 g1 g2 rfl g3)
  refine ⟨⟨Same.refl F, fun b o e n => ?_, fun b e => ?_, fun b e => .inl e⟩, ⟨fun b o e => ?_, by rw [List.length_set]; exact R.len, fun j o y g1 g2 => ?_, fun j k o p y z c g1 g2 g3 g4 o1 o2 => ?_⟩, fun c h => .inl (own2 c h), fun _ _ => rfl, rfl⟩
  · rw [upd_ne (fun z => by subst z; exact n ownA)]; exact e
  · by_cases hb : b = a
    · subst hb; rw [upd_same]; simp
    · rw [upd_ne hb]; exact e
  · rw [upd_ne (ne_of_none e hF)]; exact R.same b o e
  · rcases get_set g2 with ⟨rfl, rfl⟩ | ⟨ne, g2⟩
    · rw [h1] at g1; cases g1
      exact ⟨a, vs, rfl, hF, upd_same, r⟩
    · have sl := R.sl j o y g1 g2
      cases y with
      | un => trivial
      | d x => exact sl
      | sc ns => exact sl
      | ol zs =>
        obtain ⟨c, ws, rfl, f1, f2, f3⟩ := sl
        have nc := other j _ _ c ne g1 g2 rfl
        exact ⟨c, ws, rfl, f1, by rw [upd_ne nc]; exact f2, f3⟩
      | od kvs =>
        obtain ⟨c, u, ps, rfl, f1, f2, f3, f4, f5⟩ := sl
        have nc := other j _ _ c ne g1 g2 rfl
        exact ⟨c, u, ps, rfl, f1, by rw [upd_ne nc]; exact f2, f3, f4, f5⟩
  · rcases get_set g2 with ⟨rfl, rfl⟩ | ⟨ne, g2'⟩
    · rcases get_set g4 with ⟨rfl, rfl⟩ | ⟨ne', g4⟩
      · rfl
      · rw [h1] at g1; cases g1; cases o1
        exact absurd rfl (other k p z _ ne' g3 g4 o2)
    · rcases get_set g4 with ⟨rfl, rfl⟩ | ⟨ne', g4⟩
      · rw [h1] at g3; cases g3; cases o2
        exact absurd rfl (other j o y _ ne g1 g2' o1)
      · exact R.dis j k o p y z c g1 g2' g3 g4 o1 o2
theorem StR.own_list {i : Nat} {xs : List PyData} (R : StR K F H σ S) (h2 : S[i]? = some (.ol xs)) : ∃ a vs, σ[i]? = some (some (.ref a)) ∧ F a = none ∧ H a = some (.lst vs) ∧ RpA K F vs xs := by
  obtain ⟨p, hp, a, vs, rfl, h3, h4, h5⟩ := R.at h2
  exact ⟨a, vs, hp, h3, h4, h5⟩

/-! ### methods of an owned list -/
/-- x.m(args): the slot's list before, the arguments; what it gives, the list behind -/
def eMt (i : Nat) (o : List PyData → List PyData → Res (PyData × List PyData)) (fr : Sls → Res (List PyData × Sls)) : Sls → Res (Sl × Sls) := fun S =>
  match S[i]? with
  | some (.ol _) => (fr S).bind fun p => match p.2[i]? with
    | some (.ol xs) => (o xs p.1).bind fun r => .ok (.d r.1, p.2.set i (.ol r.2))
    | _ => .bad
  | _ => .bad
/-- a method's reading -/
def rMt (K : PySem.W.Frag) (o : List PyData → List PyData → Res (PyData × List PyData)) : V → List V → Hp → VK → Prop := fun x vs H Q => ∃ F a ws xs ds y zs, x = .ref a ∧ H a = some (.lst ws) ∧ RpA K F ws xs ∧ RpA K F vs ds ∧ Same F H ∧ F a = none ∧ o xs ds = .ok (y, zs) ∧
  ∀ v ws' F', Same F F' → (∀ b o, F' b = some o → F b = some o ∨ (b ≠ a ∧ H b = some o)) → Rp K F v y → RpA K F ws' zs → Q v (upd H a (.lst ws'))
theorem mt_read {i : Nat} {o : List PyData → List PyData → Res (PyData × List PyData)} {fr : Sls → Res (List PyData × Sls)} (ne : ∀ x y e, o x y ≠ .exc e) {Q : VK} (h : tV K mg E (eMt i o fr) σ H Q) :
    tVar i σ H fun x H1 => tyV K "list" x H1 ∧ tA K mg E fr σ H1 fun vs H2 => rMt K o x vs H2 Q := by
  obtain ⟨F, S, R, q⟩ := h
  unfold eMt at q
  cases es : S[i]? with
  | none => rw [es] at q; exact q.elim
  | some sl0 =>
    rw [es] at q
    cases sl0 with
    | un => exact q.elim
    | d y => exact q.elim
    | od y => exact q.elim
    | sc y => exact q.elim
    | ol xs0 =>
      obtain ⟨a, vs0, hp, h1, h2, h3⟩ := R.own_list es
      refine ⟨.ref a, hp, .inl ⟨rfl, vs0, SqL.of h2⟩, F, S, R, ?_⟩
      have q : OutV K mg E F H σ S Q ((fr S).bind fun p => match p.2[i]? with
        | some (.ol xs) => (o xs p.1).bind fun r => .ok (.d r.1, p.2.set i (.ol r.2))
        | _ => .bad) := q
      cases ea : fr S with
      | bad => rw [ea] at q; exact q.elim
      | exc e => rw [ea] at q; exact q
      | ok p =>
        obtain ⟨ds, S1⟩ := p
        rw [ea] at q
        intro vs F1 H1 A1 r1
        have q : OutV K mg E F H σ S Q (match S1[i]? with
          | some (.ol xs) => (o xs ds).bind fun r => .ok (.d r.1, S1.set i (.ol r.2))
          | _ => .bad) := q
        cases es1 : S1[i]? with
        | none => rw [es1] at q; exact q.elim
        | some sl1 =>
          rw [es1] at q
          cases sl1 with
          | un => exact q.elim
          | d y => exact q.elim
          | od y => exact q.elim
          | sc y => exact q.elim
          | ol xs =>
            have q : OutV K mg E F H σ S Q ((o xs ds).bind fun r => .ok (.d r.1, S1.set i (.ol r.2))) := q
            obtain ⟨a', vs1, hp', g1, g2, g3⟩ := A1.str.own_list es1
            rw [hp] at hp'; cases hp'
            cases eo : o xs ds with
            | bad => rw [eo] at q; exact q.elim
            | exc e => exact absurd eo (ne _ _ e)
            | ok r =>
              obtain ⟨y, zs⟩ := r
              rw [eo] at q
              refine ⟨F1, a, vs1, xs, ds, y, zs, rfl, g2, g3, r1, A1.str.same, g1, eo, fun v ws' F' _ _ rv rz => ?_⟩
              have A2 := A1.str.put (P := []) hp es1 rz
              exact q v F1 _ (A1.trans A2) (.d rv)
def oApp : List PyData → List PyData → Res (PyData × List PyData)
  | xs, [y] => if xs.length < sizeLine then .ok (.none, xs ++ [y]) else .bad
  | _, _ => .bad
def oExt : List PyData → List PyData → Res (PyData × List PyData)
  | xs, [.list ys] => if xs.length + ys.length ≤ sizeLine then .ok (.none, xs ++ ys) else .bad
  | _, _ => .bad
def oPop : List PyData → List PyData → Res (PyData × List PyData)
  | xs, [.int i] => match seqIndex? i xs.length with
    | none => .bad
    | some k => if -(2 ^ 63) ≤ i ∧ i < 2 ^ 63 then (match xs[k]? with
      | some y => .ok (y, xs.eraseIdx k)
      | none => .bad) else .bad
  | _, _ => .bad
theorem oPop_inv {xs ds : List PyData} {y : PyData} {zs : List PyData} (h : oPop xs ds = .ok (y, zs)) : ∃ i k, ds = [.int i] ∧ seqIndex? i xs.length = some k ∧ -(2 ^ 63) ≤ i ∧ i < 2 ^ 63 ∧ xs[k]? = some y ∧ zs = xs.eraseIdx k := by
  unfold oPop at h
  split at h
  · rename_i i
    cases e1 : seqIndex? i xs.length with
    | none => rw [e1] at h; cases h
    | some k =>
      rw [e1] at h
      dsimp only at h
      split at h
      · rename_i hh
        cases e2 : xs[k]? with
        | none => rw [e2] at h; cases h
        | some z => rw [e2] at h; cases h; exact ⟨i, k, rfl, e1, hh.1, hh.2, e2, rfl⟩
      · cases h
  · cases h
theorem oApp_ne : ∀ x y e, oApp x y ≠ .exc e := fun x y e h => by unfold oApp at h; split at h <;> (try split at h) <;> cases h
theorem oExt_ne : ∀ x y e, oExt x y ≠ .exc e := fun x y e h => by unfold oExt at h; split at h <;> (try split at h) <;> cases h
theorem RpA.eraseIdx {F : Hp} : ∀ {vs : List V} {ds : List PyData} (k : Nat), RpA K F vs ds → RpA K F (vs.eraseIdx k) (ds.eraseIdx k)
  | _, _, _, .nil => .nil
  | _, _, 0, .cons _ t => t
  | _, _, k + 1, .cons r t => .cons r (RpA.eraseIdx k t)
theorem RpA.dropLast {F : Hp} : ∀ {vs : List V} {ds : List PyData}, RpA K F vs ds → RpA K F vs.dropLast ds.dropLast
  | _, _, .nil => .nil
  | _, _, .cons _ .nil => .nil
  | _, _, .cons r (.cons r2 t) => .cons r (RpA.dropLast (.cons r2 t))
theorem mt_appD : MtR X "list.append" (rMt X.K oApp) := by
  intro pins s σ H x vs v us Q I rx rv h
  obtain ⟨F, a, ws, xs, ds, y, zs, rfl, hH, ha, hd, sm, hF, ho, q⟩ := h
  unfold oApp at ho
  split at ho
  · split at ho
    · cases ho
      obtain ⟨w, rfl, hw⟩ := rpA1 hd
      exact mt_append pins s σ H _ _ v us Q I rx rv ⟨_, _, _, rfl, rfl, hH, by rw [ha.length]; assumption, q _ _ F (Same.refl F) (fun _ _ e => .inl e) .non (ha.append (.cons hw .nil))⟩
    · cases ho
  · cases ho
theorem mt_extD : MtR X "list.extend" (rMt X.K oExt) := by
  intro pins s σ H x vs v us Q I rx rv h
  obtain ⟨F, a, ws, xs, ds, y, zs, rfl, hH, ha, hd, sm, hF, ho, q⟩ := h
  unfold oExt at ho
  split at ho
  · split at ho
    · cases ho
      obtain ⟨w, rfl, hw⟩ := rpA1 hd
      obtain ⟨b, us', rfl, hq, hb⟩ := rp_list hw
      exact mt_extend pins s σ H _ _ v us Q I rx rv ⟨_, _, _, _, rfl, rfl, hH, sm _ _ hq, by rw [ha.length, hb.length]; assumption, q _ _ F (Same.refl F) (fun _ _ e => .inl e) .non (ha.append hb)⟩
    · cases ho
  · cases ho
theorem mt_popD : MtR X "list.pop" (rMt X.K oPop) := by
  intro pins s σ H x vs v us Q I rx rv h
  obtain ⟨F, a, ws, xs, ds, y, zs, rfl, hH, ha, hd, sm, hF, ho, q⟩ := h
  obtain ⟨i, k, rfl, e1, e2, e3, e4, rfl⟩ := oPop_inv ho
  obtain ⟨w, rfl, hw⟩ := rpA1 hd
  cases rp_int hw
  obtain ⟨z, h1, h2⟩ := ha.get e4
  exact mt_popAt pins s σ H _ _ v us Q I rx rv ⟨_, _, _, _, _, rfl, rfl, hH, e2, e3, by rw [ha.length]; exact e1, h1, q _ _ F (Same.refl F) (fun _ _ e => .inl e) h2 (ha.eraseIdx _)⟩
theorem oPop_ne' : ∀ x y e, oPop x y ≠ .exc e := fun x y e h => by
  unfold oPop at h
  split at h
  · split at h
    · cases h
    · split at h
      · split at h <;> cases h
      · cases h
  · cases h
section
variable {i n : Nat} {o e : Expr} {es : List Expr} {apos cpos : Pos} {fr : Sls → Res (List PyData × Sls)}
theorem pe_appD (ho : PE X o (tVar i)) (ha : PAn X.K mg E X [e] fr n) (hbase : attributeBase o "append" X.env (eval o X.env) = eval o X.env := by rfl)
    (hfew : ((backTo cpos (starEach [e] X.env)).all (fun x => !x.1) && (backToKw cpos (keywordEach [] X.env)).all (fun x => x.1.isSome) && decide ([e].length + ([] : List Keyword).length + (if ([] : List Keyword).isEmpty then 0 else 1) < 30)) = true := by rfl)
    (hline : (apos.endLine == cpos.line) = true := by rfl) (hs : starEach [e] X.env = (false, eval e X.env) :: starEach [] X.env := by rfl) (hplain : (backTo cpos (starEach [] X.env)).any (·.1) = false := by rfl) :
    PE X (.Call (.Attribute o "append" apos) [e] [] cpos) (tV X.K mg E (eMt i oApp fr)) :=
  (pe_bm PySem.F.plainAttrs_list PySem.F.slot_list_append PySem.F.type_list_append mt_appD ho ha.pa hbase hfew hline hs hplain).imp fun σ H Q h => mt_read oApp_ne h
theorem pe_extD (ho : PE X o (tVar i)) (ha : PAn X.K mg E X [e] fr n) (hbase : attributeBase o "extend" X.env (eval o X.env) = eval o X.env := by rfl)
    (hfew : ((backTo cpos (starEach [e] X.env)).all (fun x => !x.1) && (backToKw cpos (keywordEach [] X.env)).all (fun x => x.1.isSome) && decide ([e].length + ([] : List Keyword).length + (if ([] : List Keyword).isEmpty then 0 else 1) < 30)) = true := by rfl)
    (hline : (apos.endLine == cpos.line) = true := by rfl) (hs : starEach [e] X.env = (false, eval e X.env) :: starEach [] X.env := by rfl) (hplain : (backTo cpos (starEach [] X.env)).any (·.1) = false := by rfl) :
    PE X (.Call (.Attribute o "extend" apos) [e] [] cpos) (tV X.K mg E (eMt i oExt fr)) :=
  (pe_bm PySem.F.plainAttrs_list PySem.F.slot_list_extend PySem.F.type_list_extend mt_extD ho ha.pa hbase hfew hline hs hplain).imp fun σ H Q h => mt_read oExt_ne h
theorem pe_popD (ho : PE X o (tVar i)) (ha : PAn X.K mg E X [e] fr n) (hbase : attributeBase o "pop" X.env (eval o X.env) = eval o X.env := by rfl)
    (hfew : ((backTo cpos (starEach [e] X.env)).all (fun x => !x.1) && (backToKw cpos (keywordEach [] X.env)).all (fun x => x.1.isSome) && decide ([e].length + ([] : List Keyword).length + (if ([] : List Keyword).isEmpty then 0 else 1) < 30)) = true := by rfl)
    (hline : (apos.endLine == cpos.line) = true := by rfl) (hs : starEach [e] X.env = (false, eval e X.env) :: starEach [] X.env := by rfl) (hplain : (backTo cpos (starEach [] X.env)).any (·.1) = false := by rfl) :
    PE X (.Call (.Attribute o "pop" apos) [e] [] cpos) (tV X.K mg E (eMt i oPop fr)) :=
  (pe_bm PySem.F.plainAttrs_list PySem.F.slot_list_pop PySem.F.type_list_pop mt_popD ho ha.pa hbase hfew hline hs hplain).imp fun σ H Q h => mt_read oPop_ne' h
end

/-! ### an owned list is read in place -/
/-- x[i], x an owned list or any datum -/
def ixOf : Option Sl → PyData → Res Sl
  | some (.ol xs), .int k => oS (atI xs k)
  | _, _ => .bad
theorem ixOf_inv {o : Option Sl} {d : PyData} {r : Sl} (h : ixOf o d = .ok r) : ∃ xs k y, o = some (.ol xs) ∧ d = .int k ∧ atI xs k = some y ∧ r = .d y := by
  unfold ixOf at h
  split at h
  · obtain ⟨y, e1, e2⟩ := oS_inv h
    exact ⟨_, _, y, rfl, rfl, e1, e2⟩
  · cases h
theorem ixOf_ne {o : Option Sl} {d : PyData} {e : Xc} : ixOf o d ≠ .exc e := fun h => by
  unfold ixOf at h
  split at h
  · exact oS_ne h
  · cases h
def eIxO (i : Nat) (fi : Sls → Res (PyData × Sls)) : Sls → Res (Sl × Sls) := fun S =>
  match S[i]? with
  | some (.ol _) => (fi S).bind fun p => (ixOf p.2[i]? p.1).bind fun r => .ok (r, p.2)
  | some (.d x) => (fi S).bind fun p => (dIx x p.1).bind fun r => .ok (r, p.2)
  | _ => .bad
theorem pe_ixO {i : Nat} {fi : Sls → Res (PyData × Sls)} {a b : Expr} {pos : Pos} (ha : PE X a (tVar i)) (hb : PE X b (tE X.K mg E fi)) (hs : PlainIx b) :
    PE X (.Subscript a b pos) (tV X.K mg E (eIxO i fi)) := by
  refine (pe_ix (ix_list.or ix_D) ha hb hs).imp fun σ H Q ⟨F, S, R, q⟩ => ?_
  unfold eIxO at q
  cases es : S[i]? with
  | none => rw [es] at q; exact q.elim
  | some sl0 =>
    rw [es] at q
    cases sl0 with
    | un => exact q.elim
    | od y => exact q.elim
    | sc y => exact q.elim
    | d x =>
      obtain ⟨p, hp, v0, rfl, rv⟩ := R.at es
      refine ⟨v0, hp, F, S, R, ?_⟩
      dsimp only at q
      cases ea : fi S with
      | bad => rw [ea] at q; exact q.elim
      | exc e => rw [ea] at q; exact q
      | ok p =>
        obtain ⟨d, S1⟩ := p
        rw [ea] at q
        intro v F1 H1 A1 r1
        replace q : OutV X.K mg E F H σ S Q ((dIx x d).bind fun r => .ok (r, S1)) := q
        cases eo : dIx x d with
        | bad => rw [eo] at q; exact q.elim
        | exc e => exact absurd eo (dIx_ne _ _ _)
        | ok z =>
          rw [eo] at q
          refine .inr ⟨F1, x, d, z, A1.str.same, rv.mono A1.ext.ff, r1, eo, fun u F3 H3 g sl n => ?_⟩
          exact q u F3 H3 (A1.trans (Aft.grow A1.str g)) ((Val.put A1.str g sl n).earlier A1)
    | ol xs0 =>
      obtain ⟨a, vs0, hp, h1, h2, h3⟩ := R.own_list es
      refine ⟨.ref a, hp, F, S, R, ?_⟩
      dsimp only at q
      cases ea : fi S with
      | bad => rw [ea] at q; exact q.elim
      | exc e => rw [ea] at q; exact q
      | ok p =>
        obtain ⟨d, S1⟩ := p
        rw [ea] at q
        intro v F1 H1 A1 r1
        replace q : OutV X.K mg E F H σ S Q ((ixOf S1[i]? d).bind fun r => .ok (r, S1)) := q
        cases eo : ixOf S1[i]? d with
        | bad => rw [eo] at q; exact q.elim
        | exc e => exact absurd eo ixOf_ne
        | ok r =>
          rw [eo] at q
          obtain ⟨xs, k, y, es1, rfl, ey, rfl⟩ := ixOf_inv eo
          obtain ⟨a', vs1, hp', g1, g2, g3⟩ := A1.str.own_list es1
          rw [hp] at hp'; cases hp'
          cases rp_int r1
          obtain ⟨w, e1, e2⟩ := g3.atI ey
          exact .inl ⟨_, _, _, _, rfl, rfl, SqL.of g2, e1, q w F1 H1 A1 (.d e2)⟩
/-- len(x), x an owned list -/
def eLenO (i : Nat) : Sls → Res (PyData × Sls) := fun S =>
  match S[i]? with
  | some (.ol xs) => .ok (.int (xs.length : Nat), S)
  | some (.d (.list xs)) => .ok (.int (xs.length : Nat), S)
  | some (.d (.tuple xs)) => .ok (.int (xs.length : Nat), S)
  | some (.sc ns) => .ok (.int (ns.length : Nat), S)
  | _ => .bad
theorem pe_lenO {i : Nat} {x : Str} {p px pos : Pos} (ha : PE X (.Name x px) (tVar i)) (hg : Gl X "len") (hm : X.mg "len" = none)
    (hs : starEach [.Name x px] X.env = (false, eval (.Name x px) X.env) :: starEach [] X.env := by rfl) (hpl : (backTo pos (starEach [] X.env)).any (·.1) = false := by rfl) :
    PE X (.Call (.Name "len" p) [.Name x px] [] pos) (tE X.K mg E (eLenO i)) := by
  refine (pe_callB call_len_seq hg hm PySem.boot_len (pa_cons ha pa_nil hs) (by decide) (by decide) hs hpl).imp fun σ H Q ⟨F, S, R, q⟩ => ?_
  unfold eLenO at q
  split at q
  · rename_i xs es
    obtain ⟨a, vs0, hp, h1, h2, h3⟩ := R.own_list es
    exact ⟨.ref a, hp, a, vs0, rfl, .inl (SqL.of h2), q _ F H (Aft.refl R) (by rw [h3.length]; exact .int _)⟩
  · rename_i xs es
    obtain ⟨p, hp, v, rfl, r⟩ := R.at es
    obtain ⟨a, vs, rfl, hq, ha⟩ := rp_list r
    exact ⟨_, hp, a, vs, rfl, .inl (SqL.of (R.same _ _ hq)), q _ F H (Aft.refl R) (by rw [ha.length]; exact .int _)⟩
  · rename_i xs es
    obtain ⟨p, hp, v, rfl, r⟩ := R.at es
    obtain ⟨a, vs, rfl, hq, ha⟩ := rp_tup r
    exact ⟨_, hp, a, vs, rfl, .inr (Same.sqt R.same hq), q _ F H (Aft.refl R) (by rw [ha.length]; exact .int _)⟩
  · rename_i ns es
    obtain ⟨p, hp, a, rfl, r⟩ := R.at es
    refine ⟨_, hp, a, _, rfl, .inl (R.same.seq r), q _ F H (Aft.refl R) ?_⟩
    rw [List.length_map]; exact .int _
  · exact q.elim
/-! ### the script -/
def scAt (ns : List Int) : PyData → Option Int
  | .int k => atI ns k
  | _ => none
def oI (r : Option Int) : Res PyData := match r with
  | some x => .ok (.int x)
  | none => .bad
def eScIx (i : Nat) (fi : Sls → Res (PyData × Sls)) : Sls → Res (PyData × Sls) := fun S =>
  match S[i]? with
  | some (.sc ns) => (fi S).bind fun p => (oI (scAt ns p.1)).bind fun r => .ok (r, p.2)
  | _ => .bad
theorem atI_map {α β : Type} (f : α → β) (xs : List α) (k : Int) : atI (xs.map f) k = (atI xs k).map f := by
  unfold L2.atI
  rw [List.length_map]
  cases ixN xs.length k with
  | none => rfl
  | some j => show (xs.map f)[j]? = (xs[j]?).map f; rw [List.getElem?_map]
theorem pe_scIx {i : Nat} {fi : Sls → Res (PyData × Sls)} {a b : Expr} {pos : Pos} (ha : PE X a (tVar i)) (hb : PE X b (tE X.K mg E fi)) (hs : PlainIx b) :
    PE X (.Subscript a b pos) (tE X.K mg E (eScIx i fi)) := by
  refine (pe_ix ix_list ha hb hs).imp fun σ H Q ⟨F, S, R, q⟩ => ?_
  unfold eScIx at q
  split at q
  · rename_i ns es
    obtain ⟨p, hp, a, rfl, r⟩ := R.at es
    refine ⟨_, hp, F, S, R, ?_⟩
    cases ea : fi S with
    | bad => rw [ea] at q; exact q.elim
    | exc e => rw [ea] at q; exact q
    | ok p =>
      obtain ⟨d, S1⟩ := p
      rw [ea] at q
      intro v F1 H1 A1 r1
      replace q : OutE X.K mg E F H σ S Q ((oI (scAt ns d)).bind fun r => .ok (r, S1)) := q
      cases em : scAt ns d with
      | none => rw [em] at q; exact q.elim
      | some m =>
        rw [em] at q
        cases d with
        | int k =>
          cases rp_int r1
          exact ⟨_, _, _, _, rfl, rfl, A1.str.same.seq (A1.ext.ff.seq r), by rw [atI_map, show atI ns k = some m from em]; rfl, q _ F1 H1 A1 (.int _)⟩
        | _ => cases em
  · exact q.elim
/-- script[lo:hi] -/
def eScSl (i : Nat) (fl fh : Sls → Res (Option Int × Sls)) : Sls → Res (Sl × Sls) := fun S =>
  match S[i]? with
  | some (.sc ns) => (fl S).bind fun l => (fh l.2).bind fun h => .ok (.ol (cutD (ns.map .int) l.1 h.1), h.2)
  | _ => .bad
theorem rpA_ints {F : Hp} : ∀ ns : List Int, RpA K F (ns.map V.int) (ns.map PyData.int)
  | [] => .nil
  | n :: ns => .cons (.int n) (rpA_ints ns)
theorem pe_scSl {i : Nat} {fl fh : Sls → Res (Option Int × Sls)} {a : Expr} {lo hi : Option Expr} {p2 pos : Pos} (ha : PE X a (tVar i)) (hl : PO X lo (tO X.K mg E fl)) (hh : PO X hi (tO X.K mg E fh)) :
    PE X (.Subscript a (.Slice lo hi none p2) pos) (tV X.K mg E (eScSl i fl fh)) := by
  refine (pe_slice sl_list ha hl hh).imp fun σ H Q ⟨F, S, R, q⟩ => ?_
  unfold eScSl at q
  split at q
  · rename_i ns es
    obtain ⟨p, hp, a, rfl, r⟩ := R.at es
    refine ⟨_, hp, F, S, R, ?_⟩
    cases eb : fl S with
    | bad => rw [eb] at q; exact q
    | exc e => rw [eb] at q; exact q
    | ok p2 =>
      obtain ⟨l, S2⟩ := p2
      rw [eb] at q
      intro F2 H2 A2
      refine ⟨F2, S2, A2.str, ?_⟩
      have q : OutV X.K mg E F H σ S Q ((fh S2).bind fun h => .ok (.ol (cutD (ns.map .int) l h.1), h.2)) := q
      cases ec : fh S2 with
      | bad => rw [ec] at q; exact q
      | exc e => rw [ec] at q; exact ExR.later q A2
      | ok p3 =>
        obtain ⟨h, S3⟩ := p3
        rw [ec] at q
        intro F3 H3 A3
        refine ⟨_, _, rfl, A3.str.same.seq (A3.ext.ff.seq (A2.ext.ff.seq r)), fun p hp => ?_⟩
        have g := Grow.own (o := .lst (cutV (ns.map V.int) l h)) A3.str.same hp
        have A := A2.trans A3
        refine q _ F3 _ (A.trans (Aft.grow A3.str g)) ((Val.put (z := .ol _) A3.str g ⟨p, _, rfl, A3.str.same.free hp, upd_same, (rpA_ints ns).cut l h⟩ fun a e => by cases e; exact hp).earlier A)
  · exact q.elim
end
end PD

namespace PD
open PySem PySem.Spec PyProof.Rows L2
section
variable {K : PySem.W.Frag} {mg : Str → Option Value} {E : XK} {P : List Nat} {X : Cx} {F H F' H' : Hp} {σ : Sg} {S S' : Sls}

/-! ### a, b = x, y -/
def sPar (i j : Nat) (f1 f2 : Sls → Res (Sl × Sls)) : Sls → Res (Fl × Sls) := fun S =>
  (f1 S).bind fun p => (f2 p.2).bind fun q => .ok (.next, (q.2.set i p.1).set j q.1)
theorem Val.frz_none {F1 H1 : Hp} {S1 : Sls} {v : V} {x : Sl} (r : Val K F H σ S F1 H1 σ S1 v x) {c : Addr} (h : ow (some v) x = some c) : F1 c = none ∧ H1 c ≠ none := by
  obtain ⟨e, ⟨xs, rfl⟩ | ⟨kvs, rfl⟩⟩ := ow_cases h
  · obtain ⟨a, vs, e2, h1, h2, _⟩ := r.sl
    cases e; cases e2
    exact ⟨h1, by rw [h2]; simp⟩
  · obtain ⟨a, u, ps, e2, h1, h2, _⟩ := r.sl
    cases e; cases e2
    exact ⟨h1, by rw [h2]; simp⟩
theorem Aft.storeG {F1 H1 : Hp} {σ1 : Sg} {S1 : Sls} {v : V} {x : Sl} {i : Nat} (A : Aft K P F H σ S F1 H1 σ1 S1) (r : Val K F H σ S F1 H1 σ1 S1 v x) (hi : i ∉ P) : Aft K P F H σ S F1 H1 (σ1.set i (some v)) (S1.set i x) := by
  refine ⟨A.ext, ⟨A.str.same, by rw [List.length_set, List.length_set]; exact A.str.len, fun j o y e1 e2 => ?_, fun j k o p y z a e1 e2 e3 e4 o1 o2 => ?_⟩, fun a h => ?_, fun j hj => ?_, by rw [List.length_set]; exact A.len⟩
  · rcases get_set e1 with ⟨rfl, rfl⟩ | ⟨n1, e1⟩
    · rcases get_set e2 with ⟨_, rfl⟩ | ⟨n2, _⟩
      · exact r.sl
      · exact absurd rfl n2
    · rcases get_set e2 with ⟨rfl, _⟩ | ⟨n2, e2⟩
      · exact absurd rfl n1
      · exact A.str.sl j o y e1 e2
  · rcases get_set e1 with ⟨rfl, rfl⟩ | ⟨n1, e1⟩
    · rcases get_set e2 with ⟨_, rfl⟩ | ⟨n2, _⟩
      · rcases get_set e3 with ⟨h, _⟩ | ⟨n3, e3⟩
        · exact h
        · rcases get_set e4 with ⟨h, _⟩ | ⟨n4, e4⟩
          · exact h
          · exact absurd ⟨k, p, z, e3, e4, o2⟩ (r.own a o1).1
      · exact absurd rfl n2
    · rcases get_set e2 with ⟨rfl, _⟩ | ⟨n2, e5⟩
      · exact absurd rfl n1
      · rcases get_set e3 with ⟨rfl, rfl⟩ | ⟨n3, e3⟩
        · rcases get_set e4 with ⟨_, rfl⟩ | ⟨n4, _⟩
          · exact absurd ⟨j, o, y, e1, e5, o1⟩ (r.own a o2).1
          · exact absurd rfl n4
        · rcases get_set e4 with ⟨rfl, _⟩ | ⟨n4, e4⟩
          · exact absurd rfl n3
          · exact A.str.dis j k o p y z a e1 e5 e3 e4 o1 o2
  · obtain ⟨j, o, y, e1, e2, o1⟩ := h
    rcases get_set e1 with ⟨rfl, rfl⟩ | ⟨n1, e1⟩
    · rcases get_set e2 with ⟨_, rfl⟩ | ⟨n2, _⟩
      · exact (r.own a o1).2
      · exact absurd rfl n2
    · rcases get_set e2 with ⟨rfl, _⟩ | ⟨n2, e2⟩
      · exact absurd rfl n1
      · exact A.own a ⟨j, o, y, e1, e2, o1⟩
  · have n : i ≠ j := fun z => by subst z; exact hi hj
    rw [List.getElem?_set_ne n]; exact A.keep j hj
theorem Aft.store2 {F1 H1 F2 H2 : Hp} {S1 S2 : Sls} {v w : V} {x y : Sl} {i j : Nat} (A1 : Aft K P F H σ S F1 H1 σ S1) (r1 : Val K F H σ S F1 H1 σ S1 v x) (A2 : Aft K P F1 H1 σ S1 F2 H2 σ S2) (r2 : Val K F1 H1 σ S1 F2 H2 σ S2 w y) (hi : i ∉ P) (hj : j ∉ P) :
    Aft K P F H σ S F2 H2 ((σ.set i (some v)).set j (some w)) ((S2.set i x).set j y) := by
  have A := A1.trans A2
  have B := A.storeG (r1.later A2) hi
  refine B.storeG ⟨r2.sl, fun c hc => ⟨fun ⟨k, p, z, g1, g2, g3⟩ => ?_, ?_⟩⟩ hj
  · have o := r2.own c hc
    rcases get_set g1 with ⟨rfl, rfl⟩ | ⟨n1, g1⟩
    · rcases get_set g2 with ⟨_, rfl⟩ | ⟨n2, _⟩
      · rcases o.2 with q | q
        · exact (r1.own c g3).1 q
        · exact (r1.frz_none g3).2 q
      · exact n2 rfl
    · rcases get_set g2 with ⟨rfl, _⟩ | ⟨n2, g2⟩
      · exact n1 rfl
      · exact o.1 ⟨k, p, z, g1, g2, g3⟩
  · rcases (r2.own c hc).2 with q | q
    · exact A1.own c q
    · exact .inr (A1.non0 q)
theorem ps_parD {i j : Nat} {x y : Str} {a b : Expr} {f1 f2 : Sls → Res (Sl × Sls)} {px py pt pos : Pos} {kt k2 pt2} (hc : X.calm = true) (hN : X.N.Nodup) (hi : X.N[i]? = some x) (hj : X.N[j]? = some y) (hx : X.env.scope.names.lookup x = some .local) (hy : X.env.scope.names.lookup y = some .local)
    (h1 : PE X a (tV K mg E f1)) (h2 : PE X b (tV K mg E f2))
    (hw : swappedStores [.Tuple [.Name x px, .Name y py] kt pt] (.Tuple [a, b] k2 pt2) X.env = pure (some [x, y]))
    (hij : i ≠ j := by decide) (hiP : i ∉ P := by decide) (hjP : j ∉ P := by decide) (hs : swapsWithSole [.Tuple [.Name x px, .Name y py] kt pt] (.Tuple [a, b] k2 pt2) pos.line X.env = pure false := by rfl)
    (hs1 : starEach [a, b] X.env = (false, eval a X.env) :: starEach [b] X.env := by rfl) (hs2 : starEach [b] X.env = (false, eval b X.env) :: starEach [] X.env := by rfl) :
    PS X (.Assign [.Tuple [.Name x px, .Name y py] kt pt] (.Tuple [a, b] k2 pt2) pos) (tS K mg E P (sPar i j f1 f2)) := by
  refine (ps_par hc hN hi hj hij hx hy (pa_cons h1 (pa_cons h2 pa_nil hs2) hs1) hw hs).imp fun D σ H ⟨F, S, R, q⟩ => ⟨F, S, R, ?_⟩
  unfold sPar at q
  cases ea : f1 S with
  | bad => rw [ea] at q; exact q
  | exc e => rw [ea] at q; exact q
  | ok p =>
    obtain ⟨x1, S1⟩ := p
    rw [ea] at q
    intro v F1 H1 A1 r1
    refine ⟨F1, S1, A1.str, ?_⟩
    replace q : OutS K mg E P F H σ S D ((f2 S1).bind fun q => .ok (.next, (q.2.set i x1).set j q.1)) := q
    cases eb : f2 S1 with
    | bad => rw [eb] at q; exact q
    | exc e => rw [eb] at q; exact ExR.later q A1
    | ok p =>
      obtain ⟨x2, S2⟩ := p
      rw [eb] at q
      intro w F2 H2 A2 r2
      exact ⟨v, w, rfl, q _ F2 H2 (A1.anyP.store2 r1 A2.anyP r2 hiP hjP)⟩
/-- of data -/
def sPar3 (i j l : Nat) (fr : Sls → Res (List PyData × Sls)) : Sls → Res (Fl × Sls) := fun S =>
  (fr S).bind fun p => match p.1 with
    | [x, y, z] => .ok (.next, ((p.2.set i (.d x)).set j (.d y)).set l (.d z))
    | _ => .bad
theorem ps_par3D {i j l n : Nat} {x y z : Str} {a b c : Expr} {fr : Sls → Res (List PyData × Sls)} {px py pz pt pos : Pos} {kt k2 pt2} (hc : X.calm = true) (hN : X.N.Nodup) (hi : X.N[i]? = some x) (hj : X.N[j]? = some y) (hl : X.N[l]? = some z) (hx : X.env.scope.names.lookup x = some .local) (hy : X.env.scope.names.lookup y = some .local) (hz : X.env.scope.names.lookup z = some .local)
    (ha : PAn K mg E X [a, b, c] fr n)
    (hw : swappedStores [.Tuple [.Name x px, .Name y py, .Name z pz] kt pt] (.Tuple [a, b, c] k2 pt2) X.env = pure (some [x, y, z]))
    (hij : i ≠ j := by decide) (hil : i ≠ l := by decide) (hjl : j ≠ l := by decide) (hiP : i ∉ P := by decide) (hjP : j ∉ P := by decide) (hlP : l ∉ P := by decide) (hs : swapsWithSole [.Tuple [.Name x px, .Name y py, .Name z pz] kt pt] (.Tuple [a, b, c] k2 pt2) pos.line X.env = pure false := by rfl) :
    PS X (.Assign [.Tuple [.Name x px, .Name y py, .Name z pz] kt pt] (.Tuple [a, b, c] k2 pt2) pos) (tS K mg E P (sPar3 i j l fr)) := by
  refine (ps_par3 hc hN hi hj hl hij hil hjl hx hy hz ha.pa hw hs).imp fun D σ H ⟨F, S, R, q⟩ => ⟨F, S, R, ?_⟩
  unfold sPar3 at q
  cases ea : fr S with
  | bad => rw [ea] at q; exact q
  | exc e => rw [ea] at q; exact q
  | ok p =>
    obtain ⟨xs, S1⟩ := p
    rw [ea] at q
    intro vs F1 H1 A1 r1
    match xs, r1, q with
    | [x1, x2, x3], r1, q =>
      obtain ⟨v1, v2, v3, rfl, q1, q2, q3⟩ := rpA3 r1
      refine ⟨v1, v2, v3, rfl, q _ F1 H1 ?_⟩
      exact ((A1.anyP.storeG (.d q1) hiP).storeG (.d q2) hjP).storeG (.d q3) hlP
    | [], _, q => exact q.elim
    | [_], _, q => exact q.elim
    | [_, _], _, q => exact q.elim
    | _ :: _ :: _ :: _ :: _, _, q => exact q.elim

/-! ### a target that writes a cell -/
def tGm (K : PySem.W.Frag) (P : List Nat) (w : PyData → Sls → Option Sls) : TG := fun v σ H Q => ∃ F S d S', StR K F H σ S ∧ Rp K F v d ∧ w d S = some S' ∧ ∀ σ' F' H', Aft K P F H σ S F' H' σ' S' → Q σ' H'
def tGms (K : PySem.W.Frag) (P : List Nat) (w : List PyData → Sls → Option Sls) : TGs := fun vs σ H Q => ∃ F S ds S', StR K F H σ S ∧ RpA K F vs ds ∧ w ds S = some S' ∧ ∀ σ' F' H', Aft K P F H σ S F' H' σ' S' → Q σ' H'
theorem pgm_name {i : Nat} {x : Str} {pos : Pos} (hN : X.N.Nodup) (hi : X.N[i]? = some x) (hx : Loc X.env.scope x) (hiP : i ∉ P := by decide) (hf : X.fn x = true ∨ X.env.scope.names.lookup x = some .local := by first | exact .inl rfl | exact .inr rfl | assumption) : PG X (.Name x pos) (tGm K P (wName i)) := by
  refine (pg_name hN hi hx hf).imp fun v σ H Q ⟨F, S, d, S', R, r, e, q⟩ => ?_
  cases e
  exact q _ F H ((Aft.refl (P := P) R).storeG (Val.d r) hiP)
def ixS (xs : List PyData) : PyData → Option Nat
  | .int k => ixN xs.length k
  | _ => none
/-- x[fi] = .. -/
def wIx (i : Nat) (fi : Sls → Res (PyData × Sls)) : PyData → Sls → Option Sls := fun d S =>
  match S[i]?, fi S with
  | some (.ol _), .ok p => match p.2[i]? with
    | some (.ol xs) => (ixS xs p.1).map fun j => p.2.set i (.ol (xs.set j d))
    | _ => none
  | _, _ => none
theorem pgm_ix {i : Nat} {fi : Sls → Res (PyData × Sls)} {o e : Expr} {pos : Pos} (ho : PE X o (tVar i)) (hi : PE X e (tE X.K mg E fi))
    (ha : ∀ v, assign (.Subscript o e pos) X.env v = (do
      let ov ← holding [v] (eval o X.env)
      let iv ← holding [v, ov] (eval e X.env)
      standAt pos
      holding [v, ov, iv] (setItem ov iv v)
      release [v, ov, iv] []) := by intro _; rfl) : PG X (.Subscript o e pos) (tGm X.K P (wIx i fi)) := by
  refine (pg_sub ho hi set_list ha).imp fun v σ H Q ⟨F, S, d, S', R, r, hw, q⟩ => ?_
  unfold wIx at hw
  split at hw
  · rename_i xs0 p es ef
    obtain ⟨a, vs0, hp, h1, h2, h3⟩ := R.own_list es
    refine ⟨.ref a, hp, F, S, R, ?_⟩
    rw [ef]
    intro u F1 H1 A1 r1
    split at hw
    · rename_i xs es1
      obtain ⟨j, hj, rfl⟩ := Option.map_eq_some_iff.mp hw
      obtain ⟨a', vs1, hp', g1, g2, g3⟩ := A1.str.own_list es1
      rw [hp] at hp'; cases hp'
      have hk : ∃ k, p.1 = .int k ∧ ixN xs.length k = some j := by
        unfold ixS at hj
        split at hj
        · exact ⟨_, by assumption, hj⟩
        · cases hj
      obtain ⟨k, ek, hk⟩ := hk
      rw [ek] at r1
      cases rp_int r1
      refine ⟨_, _, _, _, rfl, rfl, g2, by rw [g3.length]; exact hk, q σ F1 _ (A1.anyP.trans (A1.str.put hp es1 (g3.set (r.mono A1.ext.ff) j)))⟩
    · cases hw
  · cases hw
theorem pgms_nil : PGs X [] (tGms K P wsNil) := by
  refine pgs_nil.imp fun vs σ H Q ⟨F, S, ds, S', R, r, e, q⟩ => ?_
  cases r with
  | nil => cases e; exact ⟨rfl, q σ F H (Aft.refl R)⟩
  | cons _ _ => cases e
theorem pgms_cons {e : Expr} {es : List Expr} {w : PyData → Sls → Option Sls} {ws : List PyData → Sls → Option Sls} (h1 : PG X e (tGm K P w)) (h2 : PGs X es (tGms K P ws))
    (hs : (assignEach (e :: es) X.env).map (·.2) = assign e X.env :: (assignEach es X.env).map (·.2) := by rfl) : PGs X (e :: es) (tGms K P (wsCons w ws)) := by
  refine (pgs_cons h1 h2 hs).imp fun vs σ H Q ⟨F, S, ds, S', R, r, e, q⟩ => ?_
  cases r with
  | nil => cases e
  | @cons v vs d ds r rs =>
    refine ⟨v, vs, rfl, F, S, d, ?_⟩
    have e : (w d S).bind (ws ds) = some S' := e
    cases e1 : w d S with
    | none => rw [e1] at e; cases e
    | some S1 =>
      rw [e1] at e
      exact ⟨S1, R, r, rfl, fun σ1 F1 H1 A1 => ⟨F1, S1, ds, S', A1.str, rs.mono A1.ext.ff, e, fun σ2 F2 H2 A2 => q σ2 F2 H2 (A1.trans A2)⟩⟩
theorem pgm_tup {es : List Expr} {k : Nat} {ws : List PyData → Sls → Option Sls} {n : Nat} {pos : Pos} (hc : X.calm = true) (h : PGs X es (tGms X.K P ws)) (hlen : ∀ ds S S', ws ds S = some S' → ds.length = n)
    (hn : (assignEach es X.env).length = n := by rfl) (hst : (assignEach es X.env).findIdx? (·.1) = none := by rfl) : PG X (.Tuple es k pos) (tGm X.K P (wTup ws)) := by
  refine (pg_tup hc h hn hst).imp fun v σ H Q ⟨F, S, d, S', R, r, e, q⟩ => ?_
  cases d with
  | tuple ds =>
    obtain ⟨a, vs, rfl, hs, ha⟩ := rp_tup r
    exact ⟨a, vs, rfl, Same.sqt R.same hs, by rw [ha.length]; exact hlen _ _ _ e, F, S, ds, S', R, ha, e, q⟩
  | _ => cases e
/-- target = value -/
def sAsg (f : Sls → Res (PyData × Sls)) (w : PyData → Sls → Option Sls) : Sls → Res (Fl × Sls) := fun S =>
  (f S).bind fun p => match w p.1 p.2 with
    | some S' => .ok (.next, S')
    | none => .bad
theorem ps_asgD {tg e : Expr} {f : Sls → Res (PyData × Sls)} {w : PyData → Sls → Option Sls} {pos : Pos} (he : PE X e (tE K mg E f)) (hg : PG X tg (tGm K P w)) (hs : swapsWithSole [tg] e pos.line X.env = pure false := by rfl) (hw : swappedStores [tg] e X.env = pure none := by rfl)
    (h1 : (assignEach [tg] X.env).map (·.2) = [assign tg X.env] := by rfl) : PS X (.Assign [tg] e pos) (tS K mg E P (sAsg f w)) := by
  refine (ps_asg he hg hs hw h1).imp fun D σ H ⟨F, S, R, q⟩ => ⟨F, S, R, ?_⟩
  unfold sAsg at q
  cases ea : f S with
  | bad => rw [ea] at q; exact q
  | exc e => rw [ea] at q; exact q
  | ok p =>
    obtain ⟨x, S1⟩ := p
    rw [ea] at q
    intro v F1 H1 A1 r1
    replace q : OutS K mg E P F H σ S D (match w x S1 with
      | some S' => .ok (.next, S')
      | none => .bad) := q
    cases ew : w x S1 with
    | none => rw [ew] at q; exact q.elim
    | some S2 =>
      rw [ew] at q
      exact ⟨F1, S1, x, S2, A1.str, r1, ew, fun σ' F2 H2 A2 => q σ' F2 H2 (A1.anyP.trans A2)⟩

/-! ### x[::-1], {} -/
def dRev : PyData → Res Sl
  | .list xs => .ok (.ol xs.reverse)
  | .tuple xs => .ok (.d (.tuple xs.reverse))
  | _ => .bad
theorem dRev_ne : ∀ x e, dRev x ≠ .exc e := fun x e h => by unfold dRev at h; split at h <;> cases h
def eNewK : Sls → Res (Sl × Sls) := fun S => .ok (.od [], S)
theorem pe_newK {pos : Pos} : PE X (.Dict [] [] pos) (tV K mg E eNewK) := by
  refine pe_dnewK.imp fun σ H Q ⟨F, S, R, q⟩ => fun p hp => ?_
  have g := Grow.own (o := .dK []) R.same hp
  exact q _ F _ (Aft.grow R g) (Val.put (z := .od []) R g ⟨p, _, [], rfl, R.same.free hp, upd_same, rfl, rfl, .nil⟩ fun a e => by cases e; exact hp)

/-! ### a < b < c -/
theorem chain_read {o o' : PyData → PyData → Res Sl} {fa fb fc : Sls → Res (PyData × Sls)} (ne : ∀ x y e, o x y ≠ .exc e) (ne' : ∀ x y e, o' x y ≠ .exc e) {Q : VK} (h : tE K mg E (eChain o o' fa fb fc) σ H Q) :
    tChain (rD2 K o) (rD2 K o') (tE K mg E fa) (tE K mg E fb) (tE K mg E fc) σ H Q := by
  obtain ⟨F, S, R, q⟩ := h
  refine ⟨F, S, R, ?_⟩
  unfold eChain at q
  cases ea : fa S with
  | bad => rw [ea] at q; exact q
  | exc e => rw [ea] at q; exact q
  | ok p =>
    obtain ⟨x, S1⟩ := p
    rw [ea] at q
    intro v F1 H1 A1 r1
    refine ⟨F1, S1, A1.str, ?_⟩
    replace q : OutE K mg E F H σ S Q ((fb S1).bind fun q => (o x q.1).bind fun z => (dmS (z, q.2)).bind fun z => (asBool z.1).bind fun b => if b = true then (fc z.2).bind fun r => (o' q.1 r.1).bind fun w => dmS (w, r.2) else .ok (.bool false, z.2)) := q
    cases eb : fb S1 with
    | bad => rw [eb] at q; exact q
    | exc e => rw [eb] at q; exact ExR.later q A1
    | ok p2 =>
      obtain ⟨y, S2⟩ := p2
      rw [eb] at q
      intro w F2 H2 A2 r2
      replace q : OutE K mg E F H σ S Q ((o x y).bind fun z => (dmS (z, S2)).bind fun z => (asBool z.1).bind fun b => if b = true then (fc z.2).bind fun r => (o' y r.1).bind fun w => dmS (w, r.2) else .ok (.bool false, z.2)) := q
      cases eo : o x y with
      | bad => rw [eo] at q; exact q.elim
      | exc e => exact absurd eo (ne x y e)
      | ok z =>
        rw [eo] at q
        have A := A1.trans A2
        refine ⟨F2, x, y, z, A2.str.same, r1.mono A2.ext.ff, r2, eo, fun u F3 H3 g sl n => ?_⟩
        cases z with
        | d z =>
          cases z with
          | bool b =>
            obtain ⟨u', e1, e2⟩ := sl
            cases e1
            cases rp_bl e2
            have A3 := A.trans (Aft.grow A2.str g)
            refine ⟨b, rfl, ?_⟩
            replace q : OutE K mg E F H σ S Q (if b = true then (fc S2).bind fun r => (o' y r.1).bind fun w => dmS (w, r.2) else .ok (.bool false, S2)) := q
            cases b with
            | false => rw [if_neg Bool.false_ne_true]; exact q _ F3 H3 A3 (.bl _)
            | true =>
              rw [if_pos rfl]
              rw [if_pos rfl] at q
              refine ⟨F3, S2, A3.str, ?_⟩
              cases ec : fc S2 with
              | bad => rw [ec] at q; exact q
              | exc e => rw [ec] at q; exact ExR.later q A3
              | ok p3 =>
                obtain ⟨t, S3⟩ := p3
                rw [ec] at q
                intro w' F4 H4 A4 r4
                replace q : OutE K mg E F H σ S Q ((o' y t).bind fun w => dmS (w, S3)) := q
                cases eo' : o' y t with
                | bad => rw [eo'] at q; exact q.elim
                | exc e => exact absurd eo' (ne' _ _ e)
                | ok z' =>
                  rw [eo'] at q
                  have A5 := A3.trans A4
                  refine ⟨F4, y, t, z', A4.str.same, (r2.mono g.ext.ff).mono A4.ext.ff, r4, eo', fun u' F5 H5 g5 sl5 n5 => ?_⟩
                  have A6 := A5.trans (Aft.grow A4.str g5)
                  have vv := (Val.put A4.str g5 sl5 n5).earlier A5
                  replace q : OutE K mg E F H σ S Q (dmS (z', S3)) := q
                  cases ed : dmS (z', S3) with
                  | bad => rw [ed] at q; exact q.elim
                  | exc e => cases z' <;> cases ed
                  | ok zz =>
                    obtain ⟨y', S5⟩ := zz
                    cases dmS_snd ed
                    rw [ed] at q
                    obtain ⟨F7, A7, r7⟩ := vv.data A6 ed
                    exact q _ F7 H5 A7 r7
          | _ => exact q.elim
        | _ => exact q.elim
theorem pe_chainD {op op' : CmpOp} {o o' : PyData → PyData → Res Sl} {fa fb fc : Sls → Res (PyData × Sls)} {a b c : Expr} {pos : Pos} (ho : OpR X (compareOp op) (rD2 K o)) (ho' : OpR X (compareOp op') (rD2 K o')) (ne : ∀ x y e, o x y ≠ .exc e) (ne' : ∀ x y e, o' x y ≠ .exc e)
    (ha : PE X a (tE K mg E fa)) (hb : PE X b (tE K mg E fb)) (hc : PE X c (tE K mg E fc)) (hm : lastMarks [op, op'] [b, c] = false := by with_unfolding_all rfl) :
    PE X (.Compare a [op, op'] [b, c] pos) (tE K mg E (eChain o o' fa fb fc)) := (pe_chain ho ho' ha hb hc hm).imp fun σ H Q h => chain_read ne ne' h
theorem pt_chainD {op op' : CmpOp} {o o' : PyData → PyData → Res Sl} {fa fb fc : Sls → Res (PyData × Sls)} {a b c : Expr} {pos : Pos} (ho : OpR X (compareOp op) (rD2 K o)) (ho' : OpR X (compareOp op') (rD2 K o')) (ne : ∀ x y e, o x y ≠ .exc e) (ne' : ∀ x y e, o' x y ≠ .exc e)
    (ha : PE X a (tE K mg E fa)) (hb : PE X b (tE K mg E fb)) (hc : PE X c (tE K mg E fc)) (hm : lastMarks [op, op'] [b, c] = false := by with_unfolding_all rfl) :
    PT X (.Compare a [op, op'] [b, c] pos) (tT K mg E (ofE (eChain o o' fa fb fc))) := (pt_chain ho ho' ha hb hc hm).imp fun σ H Q h => chain_read ne ne' (ofE_read h)
end
end PD

namespace PD
open PySem PySem.Spec PyProof.Rows L2
section
variable {prog : Program} {w : World} {A : Around} {E : Value → Shared → Prop} {s : Shared}
theorem adjust_rev (n : Nat) : Builtin.Slice.sliceAdjust none none (-1) (n : Int) = ((n : Int) - 1, -1) := rfl
theorem places_rev (n : Nat) : Builtin.Slice.slicePlaces ((n : Int) - 1) (-1) (-1) = n := by
  unfold Builtin.Slice.slicePlaces
  rw [if_neg (by decide)]
  by_cases h : (n : Int) - 1 > -1
  · rw [if_pos h, show (- -1 : Int) = 1 by decide, Int.ediv_one]; omega
  · rw [if_neg h]; omega
theorem pick_rev (xs : List Value) : ((List.range xs.length).filterMap fun (k : Nat) => xs.toArray[((xs.length : Int) - 1 + (k : Int) * -1).toNat]?).toArray = xs.reverse.toArray := by
  have e : ∀ k, k ∈ List.range xs.length → xs.toArray[((xs.length : Int) - 1 + (k : Int) * -1).toNat]? = xs.reverse[k]? := by
    intro k hk
    have hk := List.mem_range.mp hk
    have : ((xs.length : Int) - 1 + (k : Int) * -1).toNat = xs.length - 1 - k := by omega
    rw [this, List.getElem?_reverse hk, List.getElem?_toArray]
  have fm : ∀ (l : List Nat) (f g : Nat → Option Value), (∀ k ∈ l, f k = g k) → l.filterMap f = l.filterMap g := by
    intro l f g h
    induction l with
    | nil => rfl
    | cons a l ih =>
      rw [List.filterMap_cons, List.filterMap_cons, h a (by simp), ih fun k hk => h k (by simp [hk])]
  rw [fm _ _ _ e]
  have h3 : ∀ l : List Value, (List.range l.length).filterMap (fun k => l[k]?) = l := by
    intro l
    induction l with
    | nil => rfl
    | cons a l ih =>
      rw [List.length_cons, List.range_succ_eq_map, List.filterMap_cons]
      simp only [List.getElem?_cons_zero, List.filterMap_map]
      congr 1
  have h4 := h3 xs.reverse
  rw [List.length_reverse] at h4
  rw [h4]
theorem sliceApplied_rev {sl : Addr} {vl vu vs : Value} {n : Nat} {Q : Int × Int × Nat → Shared → Prop} (hs : s.heap.IsSliceOf sl vl vu vs) (pl : IsPart vl none) (pu : IsPart vu none) (ps : IsPart vs (some (-1)))
    (h : Q ((n : Int) - 1, -1, n) s) : wpAny (model prog w) A (Builtin.Slice.sliceApplied (.ref sl) (pure (n : Int))) Q E s := by
  obtain ⟨os, hos, hcs, hds⟩ := id hs
  unfold Builtin.Slice.sliceApplied Builtin.Slice.sliceFields
  refine wpAny_bind (wpAny_bind (wpAny_field hos hds (x := vl) rfl (wpAny_bind (wpAny_field hos hds (x := vu) rfl (wpAny_bind (wpAny_field hos hds (x := vs) rfl (wpAny_pure ?_)))))))
  refine wpAny_bind (HT.slicePart_ ps ?_)
  show wpAny _ _ (if ((-1 : Int) == 0) = true then _ else _) _ _ s
  rw [if_neg (by decide)]
  refine wpAny_bind (HT.slicePart_ pl (wpAny_bind (HT.slicePart_ pu (wpAny_bind (wpAny_pure ?_)))))
  show wpAny _ _ (match Builtin.Slice.sliceAdjust none none (-1) (n : Int) with | (lo, hi) => pure (lo, (-1 : Int), Builtin.Slice.slicePlaces lo hi (-1))) _ _ s
  rw [adjust_rev n]
  show wpAny _ _ (pure ((n : Int) - 1, (-1 : Int), Builtin.Slice.slicePlaces ((n : Int) - 1) (-1) (-1))) _ _ s
  rw [places_rev]
  exact wpAny_pure h
theorem getItem_tuple_rev {t sl : Addr} {xs : List Value} {vl vu vs : Value} {Q : Value → Shared → Prop} (ht : IsTup s.heap t xs.toArray) (hs : s.heap.IsSliceOf sl vl vu vs) (pl : IsPart vl none) (pu : IsPart vu none) (ps : IsPart vs (some (-1)))
    (h : Q (.ref s.heap.objs.size) { s with heap := s.heap.push { cls := .type "tuple", data := .seq xs.reverse.toArray } })
    (hsz : xs.length ≤ sizeLine) : wpAny (model prog w) A (getItem (.ref t) (.ref sl)) Q E s := by
  have htake : sizeOk (.seq xs.reverse.toArray) := by
    show xs.reverse.toArray.size ≤ sizeLine
    rw [List.size_toArray, List.length_reverse]; exact hsz
  obtain ⟨os, hos, hcs, hds⟩ := id hs
  have hTs : s.TypeIs (.ref sl) "slice" := ⟨os, hos, hcs⟩
  unfold getItem
  try with_reducible refine wpAny_holding ?_
  first | refine wpAny_bind (wpAny_pure ?_) | skip
  refine wpAny_bind (wpAny_sequenceKey ht.typeIs (by decide) ?_)
  refine wpAny_bind (wpAny_callSpecial?_slot (name := Str.ofString "__getitem__") ht.typeIs PyProof.Rows.slot_tuple_getitem
    (wpAny_call_entry PyProof.Rows.slot_tuple_getitem ht.typeIs PyProof.Rows.entry_tuple_getitem ?_ (PyProof.Rows.args_tuple_getitem _ _)))
  show wpAny _ _ (Builtin.Tuple.tupleItemsOf (.ref t) >>= _) _ _ s
  refine wpAny_bind (tupleItemsOf_ ht ?_)
  refine wpAny_bind (wpAny_typeOf hTs ?_)
  rw [if_pos (by decide)]
  rw [List.size_toArray]
  refine wpAny_bind (sliceApplied_rev hs pl pu ps ?_)
  have hno : ¬ (((xs.length : Int) - 1 == 0 && (-1 : Int) == 1 && xs.length == xs.length) = true) := by
    intro q
    rw [Bool.and_eq_true, Bool.and_eq_true] at q
    exact absurd q.1.2 (by decide)
  show wpAny _ _ (if ((xs.length : Int) - 1 == 0 && (-1 : Int) == 1 && xs.length == xs.length) = true then _ else _) _ _ s
  rw [if_neg hno, pick_rev]
  first
    | exact wpAny_bind (m := Builtin.Tuple.tupleExact _) (wpAny_newObj_type (wpAny_pure ⟨_, rfl, wpAny_pure h⟩) htake)
    | exact wpAny_bind (m := Builtin.Tuple.tupleExact _) (wpAny_newObj_type (wpAny_bind (wpAny_pure (wpAny_pure ⟨_, rfl, wpAny_pure h⟩))) htake)
    | exact wpAny_bind (wpAny_bind (m := Builtin.Tuple.tupleExact _) (wpAny_newObj_type (wpAny_pure (wpAny_pure ⟨_, rfl, wpAny_pure h⟩)) htake))
    | exact wpAny_bind (wpAny_bind (m := Builtin.Tuple.tupleExact _) (wpAny_newObj_type (wpAny_pure ⟨_, rfl, wpAny_pure h⟩) htake))
end
section
variable {mg : Str → Option Value} {E : XK} {X : Cx} {f : Sls → Res (PyData × Sls)} {e : Expr} {k : Nat} {p1 p2 p3 pos : Pos}
theorem pe_revD (he : PE X e (tE X.K mg E f)) : PE X (.Subscript e (.Slice none none (some (.UnaryOp .USub (.Constant (.int 1) k p1) p2)) p3) pos) (tV X.K mg E (eUn dRev f)) := by
  suffices hh : PE X (.Subscript e (.Slice none none (some (.UnaryOp .USub (.Constant (.int 1) k p1) p2)) p3) pos) (fun σ H Q => tE X.K mg E f σ H fun x H1 => rD1 X.K dRev x H1 Q) from hh.imp fun σ H Q h => un_read dRev_ne h
  refine ⟨fun pins s σ H Q I h => ?_⟩
  refine Subscript_ (thn (he.run pins s σ H _ I h) fun v s1 ⟨x, H1, I1, r1, q1⟩ => ?_)
  obtain ⟨F, dx, z, sm, hx, hz, q⟩ := q1
  have hst : PO X (some (.UnaryOp .USub (.Constant (.int 1) k p1) p2)) (tPart (tUn (rU fun i => .int (-i)) (tC (.int 1)))) := po_some (pe_un un_neg pe_int)
  refine wpAny_Slice (thn (po_none.run pins s1 σ H1 (fun o H2 => o = none ∧ H2 = H1) I1 ⟨rfl, rfl⟩) fun vl s2 ⟨l, H2, I2, pl, el, e2⟩ => ?_)
  subst el e2
  refine thn (po_none.run pins s2 σ H2 (fun o H3 => o = none ∧ H3 = H2) I2 ⟨rfl, rfl⟩) fun vu s3 ⟨u, H3, I3, pu, eu, e3⟩ => ?_
  subst eu e3
  refine thn (hst.run pins s3 σ H3 (fun o H4 => o = some (-1) ∧ H4 = H3) I3 ⟨1, rfl, -1, rfl, rfl, rfl⟩) fun vs s4 ⟨o, H4, I4, ps, eo, e4⟩ => ?_
  subst eo e4
  have I5 : Inv X pins σ H4 { s4 with heap := s4.heap.push { cls := .type "slice", data := .fields #[vl, vu, vs] } } := I4.kept (t' := s4.toks) fun b ob q => Heap.get?_push_of_some _ q
  unfold dRev at hz
  split at hz
  · cases hz
    obtain ⟨a, ws, rfl, hq, ha⟩ := rp_list hx
    cases r1
    obtain ⟨its, r, ht, hz⟩ := I5.list (SqL.of (K := X.K) (sm _ _ hq))
    have hlen := r.length
    show wpAny (model X.prog X.w) X.A (subscriptTail e (.Slice none none (some (.UnaryOp .USub (.Constant (.int 1) k p1) p2)) p3) (.ref a) (.ref s4.heap.objs.size)) (EP X pins σ Q) X.xe { s4 with heap := s4.heap.push { cls := .type "slice", data := .fields #[vl, vu, vs] } }
    refine tail_any (ops := [.ref a, .ref s4.heap.objs.size]) ht.isList.typeIs (PySem.slot_list_getitem.lookup) ?_ (by with_unfolding_all rfl)
    refine wpAny_getItem_list_slice ht.isList (Heap.IsSliceOf.new _ vl vu vs) pl pu ps (by decide) ?_ (by rw [List.size_toArray]; omega)
    rw [PySem.W.krv_pick]
    refine ⟨.ref _, _, I5.laid (t' := s4.toks) (o := .lst ws.reverse) (fun b ob q => Heap.get?_push_of_some _ q) (Nat.le_refl _) ?_, rfl, q.list sm (I5.hok.fresh (Nat.le_refl _)) ha.reverse⟩
    exact ⟨by rw [List.length_reverse]; exact hz, _, 0, r.reverse, Heap.get?_push_size _ rfl⟩
  · cases hz
    obtain ⟨a, ws, rfl, hq, ha⟩ := rp_tup hx
    cases r1
    obtain ⟨its, r, ht, hz⟩ := I5.tuple (Same.sqt sm hq)
    have hlen := r.length
    show wpAny (model X.prog X.w) X.A (subscriptTail e (.Slice none none (some (.UnaryOp .USub (.Constant (.int 1) k p1) p2)) p3) (.ref a) (.ref s4.heap.objs.size)) (EP X pins σ Q) X.xe { s4 with heap := s4.heap.push { cls := .type "slice", data := .fields #[vl, vu, vs] } }
    refine tail_any (ops := [.ref a, .ref s4.heap.objs.size]) ht.typeIs (PyProof.Rows.slot_tuple_getitem.lookup) ?_ (by with_unfolding_all rfl)
    refine getItem_tuple_rev ht (Heap.IsSliceOf.new _ vl vu vs) pl pu ps ?_ (by omega)
    refine ⟨.ref _, _, I5.laid (t' := s4.toks) (o := .tup ws.reverse) (fun b ob q => Heap.get?_push_of_some _ q) (Nat.le_refl _) ?_, rfl, q.tup sm (I5.hok.fresh (Nat.le_refl _)) ha.reverse⟩
    exact ⟨by rw [List.length_reverse]; exact hz, _, r.reverse, IsTup.new _ _⟩
  · cases hz
end
end PD

namespace PD
open PySem PySem.Spec PyProof.Rows L2
section
variable {K : PySem.W.Frag} {mg : Str → Option Value} {E : XK} {P : List Nat} {X : Cx} {F H F' H' : Hp} {σ : Sg} {S S' : Sls}

/-! ### a def called with a list that was just made -/
def eCallT (m : Mir) (f1 : Sls → Res (Sl × Sls)) (fr : Sls → Res (List PyData × Sls)) : Sls → Res (Sl × Sls) := fun S =>
  (f1 S).bind fun p => (fr p.2).bind fun q => (m (p.1 :: q.1.map Sl.d)).bind fun r => .ok (r.1, q.2)
theorem Own.arg {vs : List V} {ds : List PyData} {v : V} {x : Sl} {c : Addr} (h : Own ((v :: vs).map some) (x :: ds.map Sl.d) c) : ow (some v) x = some c := by
  obtain ⟨j, o, y, g1, g2, g3⟩ := h
  cases j with
  | zero => cases g1; cases g2; exact g3
  | succ j => exact (Own.data ⟨j, o, y, (by simpa using g1), (by simpa using g2), g3⟩).elim
theorem StR.arg {vs : List V} {ds : List PyData} {v : V} {x : Sl} (sm : Same F H) (hv : SloR K F H (some v) x) (r : RpA K F vs ds) : StR K F H ((v :: vs).map some) (x :: ds.map Sl.d) := by
  have RD := StR.data sm r
  refine ⟨sm, by simp [r.length], fun j o y g1 g2 => ?_, fun j k o p y z c g1 g2 g3 g4 o1 o2 => ?_⟩
  · cases j with
    | zero => cases g1; cases g2; exact hv
    | succ j => exact RD.sl j o y (by simpa using g1) (by simpa using g2)
  · cases j with
    | zero =>
      cases k with
      | zero => rfl
      | succ k => exact absurd ⟨k, p, z, (by simpa using g3), (by simpa using g4), o2⟩ (fun w => Own.data w)
    | succ j => exact absurd ⟨j, o, y, (by simpa using g1), (by simpa using g2), o1⟩ (fun w => Own.data w)
/-- what is not owned here stays apart from what a callee owned -/
theorem StR.past {O : Addr → Prop} (R : StR K F H σ S) (x : Ext O F H F' H') (sm : Same F' H') (no : ∀ c, Own σ S c → ¬ O c) : StR K F' H' σ S := by
  refine ⟨sm, R.len, fun i o y g1 g2 => ?_, R.dis⟩
  have sl := R.sl i o y g1 g2
  cases y with
  | un => trivial
  | d y => obtain ⟨v, e, r⟩ := sl; exact ⟨v, e, r.mono x.ff⟩
  | sc ns => obtain ⟨a, e, r⟩ := sl; exact ⟨a, e, x.ff.seq r⟩
  | ol xs =>
    obtain ⟨a, vs, rfl, h1, h2, r⟩ := sl
    have nO := no a ⟨i, _, _, g1, g2, rfl⟩
    refine ⟨a, vs, rfl, ?_, x.fr _ _ h2 nO, r.mono x.ff⟩
    cases q : F' a with
    | none => rfl
    | some o =>
      rcases x.nf a (by rw [q]; simp) with z | z | z
      · exact absurd h1 z
      · rw [h2] at z; cases z
      · exact absurd z nO
  | od kvs =>
    obtain ⟨a, u, ps, rfl, h1, h2, h3, h4, r⟩ := sl
    have nO := no a ⟨i, _, _, g1, g2, rfl⟩
    refine ⟨a, u, ps, rfl, ?_, x.fr _ _ h2 nO, h3, h4, r.mono x.ff⟩
    cases q : F' a with
    | none => rfl
    | some o =>
      rcases x.nf a (by rw [q]; simp) with z | z | z
      · exact absurd h1 z
      · rw [h2] at z; cases z
      · exact absurd z nO
theorem callT_read {m : Mir} {f1 : Sls → Res (Sl × Sls)} {fr : Sls → Res (List PyData × Sls)} {n : Nat} (hn : ∀ S p, fr S = .ok p → p.1.length = n) {Q : VK} (h : tV K mg E (eCallT m f1 fr) σ H Q) :
    tV K mg E f1 σ H fun u H0 => tA K mg E fr σ H0 fun vs H1 => spF K mg (n + 1) m ((u :: vs) ++ []) H1 Q E := by
  obtain ⟨F, S, R, q⟩ := h
  refine ⟨F, S, R, ?_⟩
  unfold eCallT at q
  cases e1 : f1 S with
  | bad => rw [e1] at q; exact q
  | exc e => rw [e1] at q; exact q
  | ok p =>
    obtain ⟨x, S1⟩ := p
    rw [e1] at q
    intro u F1 H1 A1 r1
    refine ⟨F1, S1, A1.str, ?_⟩
    replace q : OutV K mg E F H σ S Q ((fr S1).bind fun q => (m (x :: q.1.map Sl.d)).bind fun r => .ok (r.1, q.2)) := q
    cases ea : fr S1 with
    | bad => rw [ea] at q; exact q
    | exc e => rw [ea] at q; exact ExR.later q A1
    | ok p =>
      obtain ⟨ds, S2⟩ := p
      rw [ea] at q
      intro vs F2 H2 A2 r2
      rw [List.append_nil]
      refine ⟨by rw [List.length_cons, r2.length, hn _ _ ea], F2, x :: ds.map Sl.d, ?_⟩
      have A := A1.trans A2
      have rv := r1.later A2
      refine ⟨StR.arg A2.str.same rv.sl r2, ?_⟩
      replace q : OutV K mg E F H σ S Q ((m (x :: ds.map Sl.d)).bind fun r => .ok (r.1, S2)) := q
      have sub : ∀ c, Own ((u :: vs).map some) (x :: ds.map Sl.d) c → ¬ Own σ S2 c ∧ (Own σ S c ∨ H c = none) := fun c hc => rv.own c (Own.arg hc)
      cases em : m (x :: ds.map Sl.d) with
      | bad => rw [em] at q; exact q.elim
      | exc e =>
        rw [em] at q
        intro C d F3 H3 mm ex sm xd
        exact q C d F3 H3 mm (A.ext.trans ex fun c hc => (sub c hc).2) sm xd
      | ok pr =>
        obtain ⟨y, S3⟩ := pr
        rw [em] at q
        intro v F3 H3 A3 r3
        have x3 := A3.ext
        have B : Aft K [] F H σ S F3 H3 σ S2 := by
          refine ⟨A.ext.trans x3 fun c hc => (sub c hc).2, A2.str.past x3 A3.str.same fun c hc hO => (sub c hO).1 hc, A.own, fun _ hh => (nomatch hh), rfl⟩
        refine q v F3 H3 B ⟨r3.sl, fun c hc => ?_⟩
        have o := r3.own c hc
        have sub3 : Own ((u :: vs).map some) (x :: ds.map Sl.d) c ∨ H2 c = none := o.2
        refine ⟨fun hO => ?_, ?_⟩
        · rcases sub3 with z | z
          · exact (sub c z).1 hO
          · exact (A2.str.own_none hO).2 z
        · rcases sub3 with z | z
          · exact (sub c z).2
          · exact .inr (A.non0 z)

/-! ### keywords -/
structure PKn (K : PySem.W.Frag) (mg : Str → Option Value) (E : XK) (X : Cx) (ks : List Keyword) (f : Sls → Res (List PyData × Sls)) (n : Nat) : Prop where
  pk : PK X ks (tA K mg E f)
  len : ∀ S p, f S = .ok p → p.1.length = n
theorem _root_.L2.PK.imp {e : List Keyword} {t t' : TA} (h : PK X e t) (i : ∀ σ H Q, t' σ H Q → t σ H Q) : PK X e t' := ⟨fun pos pins s σ H Q I q => h.run pos pins s σ H Q I (i σ H Q q)⟩
theorem kn_nil : PKn K mg E X [] aNil 0 := by
  refine ⟨pk_nil.imp fun σ H Q ⟨F, S, R, q⟩ => q [] F H (Aft.refl R) .nil, fun S p h => ?_⟩
  cases h; rfl
theorem kn_cons {nm : Option Str} {e : Expr} {kpos : Pos} {kws : List Keyword} {fa : Sls → Res (PyData × Sls)} {fr : Sls → Res (List PyData × Sls)} {n : Nat} (ha : PE X e (tE K mg E fa)) (hr : PKn K mg E X kws fr n) : PKn K mg E X (⟨nm, e, kpos⟩ :: kws) (aCons fa fr) (n + 1) := by
  refine ⟨(pk_cons ha hr.pk).imp fun σ H Q ⟨F, S, R, q⟩ => ⟨F, S, R, ?_⟩, fun S p h => ?_⟩
  · unfold aCons at q
    cases ea : fa S with
    | bad => rw [ea] at q; exact q
    | exc e => rw [ea] at q; exact q
    | ok p =>
      obtain ⟨x, S1⟩ := p
      rw [ea] at q
      intro v F1 H1 A1 r1
      refine ⟨F1, S1, A1.str, ?_⟩
      replace q : OutA K mg E F H σ S Q ((fr S1).bind fun q => .ok (x :: q.1, q.2)) := q
      cases eb : fr S1 with
      | bad => rw [eb] at q; exact q
      | exc e => rw [eb] at q; exact ExR.later q A1
      | ok p2 =>
        obtain ⟨y, S2⟩ := p2
        rw [eb] at q
        intro ws F2 H2 A2 r2
        exact q (v :: ws) F2 H2 (A1.trans A2) (.cons (r1.mono A2.ext.ff) r2)
  · unfold aCons at h
    cases ea : fa S with
    | bad => rw [ea] at h; cases h
    | exc e => rw [ea] at h; cases h
    | ok p1 =>
      rw [ea] at h
      replace h : ((fr p1.2).bind fun q => .ok (p1.1 :: q.1, q.2)) = Res.ok p := h
      cases eb : fr p1.2 with
      | bad => rw [eb] at h; cases h
      | exc e => rw [eb] at h; cases h
      | ok p2 =>
        rw [eb] at h
        cases h
        show (p1.1 :: p2.1).length = n + 1
        rw [List.length_cons, hr.len _ _ eb]
end
/-- the parameters' order -/
def gK {α : Type} (n : Nat) (ix : List Nat) (d : α) (us ws : List α) : List α := if us.length = 0 ∧ ws.length = n then ix.map (ws.getD · d) else []
theorem gK_rel {n : Nat} {ix : List Nat} {vs : List V} {us : List Value} {zs : List V} {ws : List Value} (r : Vals vs us) (rz : Vals zs ws) : Vals (gK n ix .non vs zs) (gK n ix .none us ws) := by
  unfold gK
  rw [r.length, rz.length]
  split
  · clear r
    induction ix with
    | nil => exact .nil
    | cons i ix ih =>
      refine .cons ?_ ih
      dsimp only
      rw [List.getD_eq_getElem?_getD, List.getD_eq_getElem?_getD]
      cases e : zs[i]? with
      | none => rw [Vals.none_of rz e]; rfl
      | some v =>
        obtain ⟨u, e2, r2⟩ := Vals.get rz e
        rw [e2]; exact r2
  · exact .nil
theorem kb_mk {K : PySem.W.Frag} {fd : FuncData} {ps ks : List Str} {n : Nat} {ix : List Nat} (hp : 0 < ps.length) (h : ∀ (s : Shared) (ws : List Value), ws.length = n → BindsTo s fd ⟨[], ks.zip ws⟩ (ps.zip (ix.map (ws.getD · .none)))) :
    KBinds K fd ps ks (gK n ix .none) (gK n ix .non) := by
  refine ⟨fun s us ws _ hl => ?_, fun r rz => gK_rel r rz⟩
  unfold gK at hl ⊢
  split
  · rename_i hh
    have hu : us = [] := List.eq_nil_of_length_eq_zero hh.1
    subst hu
    exact h s ws hh.2
  · rename_i hh
    rw [if_neg hh] at hl
    exact absurd hl (by simp only [List.length_nil]; omega)
def eCallK (ix : List Nat) (m : Mir) (fr : Sls → Res (List PyData × Sls)) : Sls → Res (Sl × Sls) := fun S =>
  (fr S).bind fun p => (m ((ix.map (p.1.getD · .none)).map Sl.d)).bind fun r => .ok (r.1, p.2)
structure OkK (Pr : Program) (w : World) (K : PySem.W.Frag) (mg : Str → Option Value) (base : Heap) (k : Nat) (x : Str) (ps ks : List Str) (n : Nat) (ix : List Nat) (m : Mir) : Prop where
  ex : ∃ (f : Addr) (fd : FuncData), mg x = some (.ref f) ∧ PySem.W.keepIn K (.ref f) = true ∧ KBinds K fd ps ks (gK n ix .none) (gK n ix .non) ∧ FnG Pr w K mg base k f fd ps (spF K mg ps.length m)
section
variable {X : Cx} {E : XK} {mg : Str → Option Value} {m : Mir} {x : Str} {ps ks : List Str} {k n : Nat} {ix : List Nat} {fr : Sls → Res (List PyData × Sls)} {kws : List Keyword} {p pos : Pos}
theorem rpA_ix {K : PySem.W.Frag} {F : Hp} {vs : List V} {ds : List PyData} (r : RpA K F vs ds) : ∀ ix : List Nat, RpA K F (ix.map (vs.getD · .non)) (ix.map (ds.getD · .none))
  | [] => .nil
  | i :: ix => by
    refine .cons ?_ (rpA_ix r ix)
    dsimp only
    rw [List.getD_eq_getElem?_getD, List.getD_eq_getElem?_getD]
    cases e : ds[i]? with
    | none =>
      have : vs[i]? = none := by
        rw [List.getElem?_eq_none_iff] at e ⊢
        rw [r.length]; exact e
      rw [this]; exact .non
    | some d =>
      obtain ⟨v, e2, r2⟩ := r.get e
      rw [e2]; exact r2
theorem pe_callKD (O : OkK X.prog X.w X.K X.mg X.base k x ps ks n ix m) (hgd : X.A.guards = some []) (hr : Room k X.A) (hg : Gl X x) (hx : Passes (L2.CX X.prog X.w) X E) (ha : PKn X.K X.mg E X kws fr n) (hix : ix.length = ps.length := by rfl)
    (hall : (backToKw pos (keywordEach kws X.env)).all (·.1.isSome) = true := by rfl) (hks : (backToKw pos (keywordEach kws X.env)).filterMap (·.1) = ks := by rfl) (hdb : (x == ("__debug__" : Str)) = false := by decide)
    (hpl : ((backTo pos (starEach [] X.env)).any (·.1) || (backToKw pos (keywordEach kws X.env)).any (·.1.isNone)) = false := by rfl) :
    PE X (.Call (.Name x p) [] kws pos) (tV X.K X.mg E (eCallK ix m fr)) := by
  obtain ⟨f, fd, hm, hk, hb, G⟩ := O.ex
  suffices hh : PE X (.Call (.Name x p) [] kws pos) (fun σ H Q => tA X.K X.mg E fr σ H fun vs H1 => vs.length = n ∧ spF X.K X.mg ps.length m (gK n ix .non [] vs) H1 Q E) from hh.imp fun σ H Q h => by
    obtain ⟨F, S, R, q⟩ := h
    refine ⟨F, S, R, ?_⟩
    unfold eCallK at q
    cases ea : fr S with
    | bad => rw [ea] at q; exact q
    | exc e => rw [ea] at q; exact q
    | ok p =>
      obtain ⟨ds, S1⟩ := p
      rw [ea] at q
      intro vs F1 H1 A1 r1
      have hl : vs.length = n := by rw [r1.length]; exact ha.len _ _ ea
      refine ⟨hl, ?_⟩
      unfold gK
      rw [if_pos ⟨rfl, hl⟩]
      refine ⟨by rw [List.length_map]; exact hix, ?_⟩
      have RD := StR.data A1.str.same (rpA_ix r1 ix)
      refine ⟨F1, (ix.map (ds.getD · .none)).map Sl.d, RD, ?_⟩
      replace q : OutV X.K X.mg E F H σ S Q ((m ((ix.map (ds.getD · .none)).map Sl.d)).bind fun r => .ok (r.1, S1)) := q
      cases em : m ((ix.map (ds.getD · .none)).map Sl.d) with
      | bad => rw [em] at q; exact q.elim
      | exc e => rw [em] at q; exact fun C d F2 H2 mm ex s xd => (ExR.later q A1) C d F2 H2 mm (ex.weak fun c z => (Own.data z).elim) s xd
      | ok pr =>
        obtain ⟨y, S2⟩ := pr
        rw [em] at q
        intro v F2 H2 A2 r2
        have g : Grow F1 H1 F2 H2 := ⟨⟨A2.ext.ff, fun b o e _ => A2.ext.fr b o e (fun z => Own.data z), A2.ext.nn, fun b e => (A2.ext.nf b e).imp id (Or.imp id fun z => (Own.data z).elim)⟩, A2.str.same⟩
        refine q v F2 H2 (A1.trans (Aft.grow A1.str g)) ((Val.put A1.str g r2.sl fun c hc => ?_).earlier A1)
        rcases (r2.own c hc).2 with z | z
        · exact (Own.data z).elim
        · exact z
  refine ⟨fun pins s σ H Q I h => wpAny_Call_Name_kw (ld_glob I hg hm (PySem.W.callWith_KW0 (h₀ := X.base) I.ok.mod.kin hk hall (thn (ha.pk.run pos pins s σ H _ I h) fun ws s2 z2 => ?_) hpl) hdb)⟩
  obtain ⟨zs, H2, I2, rz, hl2, q2⟩ := z2
  refine ⟨I2.kIn, ?_⟩
  rw [hks]
  have r2 := hb.rel (vs := []) (us := []) .nil rz
  have hl : (gK n ix .none [] ws).length = ps.length := by rw [← r2.length]; exact G.many _ _ _ _ q2
  refine wpAny_call (codeAny_mono (G.goes X.A X.stack s2 H2 ⟨[] ++ [], ks.zip ws⟩ (gK n ix .none [] ws) (gK n ix .non [] zs) Q E hgd hr I2.env0 (hb.to s2 [] ws I2.kIn hl) r2 q2) fun r s' hq => ?_)
  cases r with
  | error e => exact hx pins σ H2 s2 e s' I2 hq
  | ok fl => cases fl with
    | ret u => exact I2.after hq
    | _ => exact hq.elim
theorem pe_callTD {e : Expr} {es : List Expr} {f1 : Sls → Res (Sl × Sls)} (O : Ok X.prog X.w X.K X.mg X.base k x ps m) (hgd : X.A.guards = some []) (hr : Room k X.A) (hg : Gl X x) (hx : Passes (L2.CX X.prog X.w) X E) (hv : PE X e (tV X.K X.mg E f1)) (ha : PAn X.K X.mg E X es fr n) (hn : n + 1 = ps.length := by rfl)
    (hs : starEach (e :: es) X.env = (false, eval e X.env) :: starEach es X.env := by rfl)
    (hdb : (x == ("__debug__" : Str)) = false := by decide) (hpl : (backTo pos (starEach es X.env)).any (·.1) = false := by rfl) :
    PE X (.Call (.Name x p) (e :: es) [] pos) (tV X.K X.mg E (eCallT m f1 fr)) := by
  obtain ⟨f, fd, hm, hk, hb, Fo⟩ := O.ex
  have hl : ps.length = n + 1 := hn.symm
  rw [hl] at Fo
  exact (pe_callG Fo hgd hr hg hm hk hb hx (pa_cons hv ha.pa hs) hdb hs hpl).imp fun σ H Q h => callT_read ha.len h
/-! ### constants -/
theorem pe_iC {i : Int} {j : Nat} {pos : Pos} : PE X (.Constant (.int i) j pos) (tE X.K mg E (eC (.int i))) := pe_cE pe_int fun _ => .int _
theorem pe_sC {i : Str} {j : Nat} {pos : Pos} : PE X (.Constant (.str i) j pos) (tE X.K mg E (eC (.str i))) := pe_cE pe_str fun _ => .str _
theorem pe_bC {i : Bool} {j : Nat} {pos : Pos} : PE X (.Constant (.bool i) j pos) (tE X.K mg E (eC (.bool i))) := pe_cE pe_bl fun _ => .bl _
theorem pe_nC {j : Nat} {pos : Pos} : PE X (.Constant .none j pos) (tE X.K mg E (eC .none)) := pe_cE pe_non fun _ => .non
theorem pe_gI {y : Str} {i : Int} {pos : Pos} (hg : Gl X y) (hm : ∃ t, X.mg y = some (.int i t)) (hd : (y == ("__debug__" : Str)) = false := by decide) : PE X (.Name y pos) (tE X.K mg E (eC (.int i))) := by
  obtain ⟨t, hm⟩ := hm
  exact pe_cE (pe_glob hg hm (v := .int i) ⟨t, rfl⟩ hd) fun _ => .int _
theorem pe_gS {y : Str} {i : Str} {pos : Pos} (hg : Gl X y) (hm : ∃ t, X.mg y = some (.str i t)) (hd : (y == ("__debug__" : Str)) = false := by decide) : PE X (.Name y pos) (tE X.K mg E (eC (.str i))) := by
  obtain ⟨t, hm⟩ := hm
  exact pe_cE (pe_glob hg hm (v := .str i) ⟨t, rfl⟩ hd) fun _ => .str _
end
/-! ### a def of the module -/
structure DefIs (K : PySem.W.Frag) (mg : Str → Option Value) (x : Str) (st : Stmt) (ps : List Str) (f : Addr) (fd : FuncData) : Prop where
  g : mg x = some (.ref f)
  k : PySem.W.keepIn K (.ref f) = true
  b : Binds K fd ps []
  fn : Fun K x x st f fd
theorem DefIs.ok {Pr : Program} {w : World} {K : PySem.W.Frag} {mg : Str → Option Value} {base : Heap} {k n : Nat} {x : Str} {st : Stmt} {ps : List Str} {f : Addr} {fd : FuncData} {m : Mir} (D : DefIs K mg x st ps f fd) (G : FnG Pr w K mg base k f fd ps (spF K mg n m)) (hn : n = ps.length := by rfl) : Ok Pr w K mg base k x ps m := by
  subst hn; exact ⟨f, fd, D.g, D.k, D.b, G⟩
theorem DefIs.okK {Pr : Program} {w : World} {K : PySem.W.Frag} {mg : Str → Option Value} {base : Heap} {k n n' : Nat} {x : Str} {st : Stmt} {ps ks : List Str} {ix : List Nat} {f : Addr} {fd : FuncData} {m : Mir} (D : DefIs K mg x st ps f fd) (G : FnG Pr w K mg base k f fd ps (spF K mg n m)) (kb : KBinds K fd ps ks (gK n' ix .none) (gK n' ix .non)) (hn : n = ps.length := by rfl) : OkK Pr w K mg base k x ps ks n' ix m := by
  subst hn; exact ⟨f, fd, D.g, D.k, kb, G⟩
theorem Ok.up {Pr : Program} {w : World} {K : PySem.W.Frag} {mg : Str → Option Value} {base : Heap} {j k : Nat} {x : Str} {ps : List Str} {m : Mir} (O : Ok Pr w K mg base j x ps m) (h : j ≤ k) : Ok Pr w K mg base k x ps m := by
  obtain ⟨f, fd, h1, h2, h3, G⟩ := O.ex
  exact ⟨f, fd, h1, h2, h3, G.up h⟩
end PD
namespace PD
open PySem PySem.Spec PyProof.Rows L2
theorem FnG.none {Pr : Program} {w : World} {K : PySem.W.Frag} {mg : Str → Option Value} {base : Heap} {k n : Nat} {f : Addr} {fd : FuncData} {ps : List Str} (hn : n = ps.length := by rfl) : FnG Pr w K mg base k f fd ps (spF K mg n fun _ => .bad) :=
  ⟨fun vs H Q E h => h.1.trans hn, fun A outer s H args us vs Q E hg r e0 hb rv h => by
    obtain ⟨_, F, S, _, q⟩ := h
    exact q.elim⟩
end PD

namespace PD
open PySem PySem.Spec PyProof.Rows L2

/-! ### mirrors, evaluated -/
theorem bind_ok {α β : Type} (a : α) (f : α → Res β) : (Res.ok a).bind f = f a := rfl
theorem backS_wipe {S S1 : Sls} : ∀ {vs : List Nat}, backS S S1 vs = backS S S1 vs := rfl
theorem backS_self (S : Sls) : ∀ vs : List Nat, ∀ S1 : Sls, S1.length = S.length → (∀ i, i ∉ vs → S1[i]? = S[i]?) → backS S S1 vs = S := fun vs S1 hl h => by
  apply List.ext_getElem?
  intro i
  by_cases hi : i ∈ vs
  · exact backS_in (by rw [hl]) hi
  · rw [backS_out hi]; exact h i hi
theorem lcL_map {vs : List Nat} {w : PyData → Sls → Option Sls} {ft : Sls → Res (Bool × Sls)} {fe : Sls → Res (PyData × Sls)} {S : Sls} {p : PyData → Bool} {g : PyData → PyData} : ∀ {ds : List PyData},
    (∀ d ∈ ds, ∃ S1 S2, w d S = some S1 ∧ ft S1 = .ok (p d, S2) ∧ (p d = false → wipeS S2 vs = S) ∧ (p d = true → ∃ S3, fe S2 = .ok (g d, S3) ∧ wipeS S3 vs = S)) → lcL vs w ft fe ds S = .ok ((ds.filter p).map g, S)
  | [], _ => rfl
  | d :: ds, h => by
    obtain ⟨S1, S2, h1, h2, h3, h4⟩ := h d (by simp)
    have ih := lcL_map (ds := ds) fun e he => h e (by simp [he])
    rw [lcL, h1]
    simp only [h2]
    cases hp : p d with
    | false =>
      simp only [hp]
      rw [h3 hp, ih, List.filter_cons, hp]; rfl
    | true =>
      obtain ⟨S3, h5, h6⟩ := h4 hp
      simp only [hp, h5, h6, ih]
      rw [List.filter_cons, hp]; rfl
theorem eLc_map {fi : Sls → Res (List PyData × Sls)} {vs : List Nat} {w : PyData → Sls → Option Sls} {ft : Sls → Res (Bool × Sls)} {fe : Sls → Res (PyData × Sls)} {S S1 : Sls} {xs : List PyData} (p : PyData → Bool) (g : PyData → PyData) (hi : fi S = .ok (xs, S1)) (hl : xs.length ≤ sizeLine)
    (h : ∀ d ∈ xs, ∃ S2 S3, w d (wipeS S1 vs) = some S2 ∧ ft S2 = .ok (p d, S3) ∧ (p d = false → wipeS S3 vs = wipeS S1 vs) ∧ (p d = true → ∃ S4, fe S3 = .ok (g d, S4) ∧ wipeS S4 vs = wipeS S1 vs)) :
    eLc fi vs w ft fe S = .ok (.ol ((xs.filter p).map g), S1) := by
  unfold eLc
  rw [hi, bind_ok]
  show ((lcL vs w ft fe xs (wipeS S1 vs)).bind fun r => if r.1.length ≤ sizeLine then Res.ok (Sl.ol r.1, backS S1 r.2 vs) else .bad) = _
  rw [lcL_map h, bind_ok]
  rw [if_pos (by rw [List.length_map]; exact Nat.le_trans (List.length_filter_le _ _) hl), backS_self S1 vs _ (wipeS_length _ _) fun i hi => wipeS_out hi]
/-- without a test -/
theorem eLc_all {fi : Sls → Res (List PyData × Sls)} {vs : List Nat} {w : PyData → Sls → Option Sls} {fe : Sls → Res (PyData × Sls)} {S S1 : Sls} {xs : List PyData} (g : PyData → PyData) (hi : fi S = .ok (xs, S1)) (hl : xs.length ≤ sizeLine)
    (h : ∀ d ∈ xs, ∃ S2 S4, w d (wipeS S1 vs) = some S2 ∧ fe S2 = .ok (g d, S4) ∧ wipeS S4 vs = wipeS S1 vs) : eLc fi vs w tYs fe S = .ok (.ol (xs.map g), S1) := by
  have e := eLc_map (ft := tYs) (fun _ => true) g hi hl fun d hd => by
    obtain ⟨S2, S4, h1, h2, h3⟩ := h d hd
    exact ⟨S2, S2, h1, rfl, fun z => (nomatch z), fun _ => ⟨S4, h2, h3⟩⟩
  rw [e, List.filter_eq_self.mpr fun _ _ => rfl]
/-- the elements themselves, those that pass -/
theorem eLc_flt {fi : Sls → Res (List PyData × Sls)} {vs : List Nat} {w : PyData → Sls → Option Sls} {ft : Sls → Res (Bool × Sls)} {fe : Sls → Res (PyData × Sls)} {S S1 : Sls} {xs : List PyData} (p : PyData → Bool) (hi : fi S = .ok (xs, S1)) (hl : xs.length ≤ sizeLine)
    (h : ∀ d ∈ xs, ∃ S2 S3, w d (wipeS S1 vs) = some S2 ∧ ft S2 = .ok (p d, S3) ∧ fe S3 = .ok (d, S3) ∧ wipeS S3 vs = wipeS S1 vs) : eLc fi vs w ft fe S = .ok (.ol (xs.filter p), S1) := by
  have e := eLc_map (ft := ft) p id hi hl fun d hd => by
    obtain ⟨S2, S3, h1, h2, h3, h4⟩ := h d hd
    exact ⟨S2, S3, h1, h2, fun _ => h4, fun _ => ⟨S3, h3, h4⟩⟩
  rw [e, List.map_id]
theorem asBools_map {α : Type} (f : α → Bool) : ∀ xs : List α, asBools (xs.map fun x => .bool (f x)) = some (xs.map f)
  | [] => rfl
  | x :: xs => by rw [List.map_cons, asBools, asBools_map f xs]; rfl
theorem asInts_map {α : Type} (f : α → Int) : ∀ xs : List α, asInts (xs.map fun x => .int (f x)) = some (xs.map f)
  | [] => rfl
  | x :: xs => by rw [List.map_cons, asInts, asInts_map f xs]; rfl
theorem dAll_map {α : Type} (f : α → Bool) (xs : List α) : dAll [.list (xs.map fun x => .bool (f x))] = .ok (.d (.bool (xs.all f))) := by
  show (match asBools (xs.map fun x => .bool (f x)) with
    | some ns => Res.ok (Sl.d (.bool (ns.all id)))
    | _ => .bad) = _
  rw [asBools_map]
  simp only [List.all_map, Function.comp_def, id]
theorem outP_nil (S : Sls) : ∀ n, outP [] S n = unS n
  | 0 => rfl
  | n + 1 => by
    rw [outP, outP_nil S n, if_neg (by simp)]
    unfold unS
    rw [List.replicate_succ']
end PD

namespace PD
open PySem PySem.Spec PyProof.Rows L2
section
variable {α β : Type} {S : Sls} {i j l : Nat} {f fa fb fc f1 f2 : Sls → Res (PyData × Sls)} {g g1 g2 : Sls → Res (Sl × Sls)} {t t1 t2 : Sls → Res (Bool × Sls)} {r : Sls → Res (List PyData × Sls)} {b b1 b2 : Sls → Res (Fl × Sls)} {m : Mir} {o o' : PyData → PyData → Res Sl} {o1 : PyData → Res Sl} {on : List PyData → Res Sl}
@[simp] theorem ev_bind (a : α) (h : α → Res β) : (Res.ok a).bind h = h a := rfl
@[simp] theorem ev_bad (h : α → Res β) : (Res.bad : Res α).bind h = .bad := rfl
@[simp] theorem ev_dm1 {x : PyData} : dmS (.d x, S) = .ok (x, S) := rfl
@[simp] theorem ev_dm2 {x : List PyData} : dmS (.ol x, S) = .ok (.list x, S) := rfl
@[simp] theorem ev_dm3 {x : List (PyData × PyData)} : dmS (.od x, S) = .ok (.dict x, S) := rfl
@[simp] theorem ev_dm : dm g S = (g S).bind dmS := rfl
@[simp] theorem ev_lf : lf f S = (f S).bind fun p => .ok (.d p.1, p.2) := rfl
@[simp] theorem ev_eC {x : PyData} : eC x S = .ok (x, S) := rfl
@[simp] theorem ev_eVar : eVar i S = match S[i]? with
  | some (.d x) => .ok (x, S)
  | some (.ol xs) => .ok (.list xs, S.set i (.d (.list xs)))
  | some (.od kvs) => .ok (.dict kvs, S.set i (.d (.dict kvs)))
  | _ => .bad := rfl
@[simp] theorem ev_mVar : mVar i S = match S[i]? with
  | some (.d x) => .ok (.d x, S)
  | some (.ol xs) => .ok (.ol xs, S.set i .un)
  | some (.od kvs) => .ok (.od kvs, S.set i .un)
  | some (.sc ns) => .ok (.sc ns, S)
  | _ => .bad := rfl
@[simp] theorem ev_eBin : eBin o fa fb S = (fa S).bind fun p => (fb p.2).bind fun q => (o p.1 q.1).bind fun z => .ok (z, q.2) := rfl
@[simp] theorem ev_eUn : eUn o1 fa S = (fa S).bind fun p => (o1 p.1).bind fun z => .ok (z, p.2) := rfl
@[simp] theorem ev_aNil : aNil S = .ok ([], S) := rfl
@[simp] theorem ev_aCons : aCons fa r S = (fa S).bind fun p => (r p.2).bind fun q => .ok (p.1 :: q.1, q.2) := rfl
@[simp] theorem ev_eTup : eTup r S = (r S).bind fun p => .ok (.tuple p.1, p.2) := rfl
@[simp] theorem ev_eLst : eLst r S = (r S).bind fun p => .ok (.ol p.1, p.2) := rfl
@[simp] theorem ev_eCall : eCall on r S = (r S).bind fun p => (on p.1).bind fun z => .ok (z, p.2) := rfl
@[simp] theorem ev_pNo : pNo S = .ok (none, S) := rfl
@[simp] theorem ev_pInt : pInt f S = (f S).bind fun p => (asInt p.1).bind fun i => .ok (some i, p.2) := rfl
@[simp] theorem ev_asInt {k : Int} : asInt (.int k) = .ok k := rfl
@[simp] theorem ev_eSl {op : PyData → Option Int → Option Int → Res Sl} {fl fh : Sls → Res (Option Int × Sls)} : eSl op fa fl fh S = (fa S).bind fun p => (fl p.2).bind fun l => (fh l.2).bind fun h => (op p.1 l.1 h.1).bind fun z => .ok (z, h.2) := rfl
@[simp] theorem ev_asBool {c : Bool} : asBool (.bool c) = .ok c := rfl
@[simp] theorem ev_ofE : ofE f S = (f S).bind fun p => (asBool p.1).bind fun b => .ok (b, p.2) := rfl
@[simp] theorem ev_tNo : tNo t S = (t S).bind fun p => .ok (!p.1, p.2) := rfl
@[simp] theorem ev_tAn : tAn t1 t2 S = (t1 S).bind fun p => if p.1 = true then t2 p.2 else .ok (false, p.2) := rfl
@[simp] theorem ev_tOrr : tOrr t1 t2 S = (t1 S).bind fun p => if p.1 = true then .ok (true, p.2) else t2 p.2 := rfl
@[simp] theorem ev_tYs : tYs S = .ok (true, S) := rfl
@[simp] theorem ev_eAn : eAn fa fb S = (fa S).bind fun p => (asBool p.1).bind fun b => if b = true then fb p.2 else .ok (.bool false, p.2) := rfl
@[simp] theorem ev_eOrr : eOrr fa fb S = (fa S).bind fun p => (asBool p.1).bind fun b => if b = true then .ok (.bool true, p.2) else fb p.2 := rfl
@[simp] theorem ev_eNo : eNo f S = (f S).bind fun p => (asBool p.1).bind fun b => .ok (.bool (!b), p.2) := rfl
@[simp] theorem ev_eIf : eIf t g1 g2 S = (t S).bind fun p => if p.1 = true then g1 p.2 else g2 p.2 := rfl
@[simp] theorem ev_eChain : eChain o o' fa fb fc S = (fa S).bind fun p => (fb p.2).bind fun q => (o p.1 q.1).bind fun z => (dmS (z, q.2)).bind fun z => (asBool z.1).bind fun b => if b = true then (fc z.2).bind fun r => (o' q.1 r.1).bind fun w => dmS (w, r.2) else .ok (.bool false, z.2) := rfl
@[simp] theorem ev_sNil : sNil S = .ok (.next, S) := rfl
@[simp] theorem ev_sSeq : sSeq b1 b2 S = (b1 S).bind fun p => match p.1 with
  | .next => b2 p.2
  | f => .ok (f, p.2) := rfl
@[simp] theorem ev_sPass : sPass S = .ok (.next, S) := rfl
@[simp] theorem ev_sBrk : sBrk S = .ok (.brk, S) := rfl
@[simp] theorem ev_sCont : sCont S = .ok (.cont, S) := rfl
@[simp] theorem ev_sBad : sBad S = .bad := rfl
@[simp] theorem ev_sIf : sIf t b1 b2 S = (t S).bind fun p => if p.1 = true then b1 p.2 else b2 p.2 := rfl
@[simp] theorem ev_sRet : sRet g S = (g S).bind fun p => .ok (.ret p.1, p.2) := rfl
@[simp] theorem ev_sSet : sSet i g S = (g S).bind fun p => .ok (.next, p.2.set i p.1) := rfl
@[simp] theorem ev_sDrop : sDrop g S = (g S).bind fun p => .ok (.next, p.2) := rfl
@[simp] theorem ev_wName {d : PyData} : wName i d S = some (S.set i (.d d)) := rfl
@[simp] theorem ev_wsNil : wsNil [] S = some S := rfl
@[simp] theorem ev_wsCons {w : PyData → Sls → Option Sls} {ws : List PyData → Sls → Option Sls} {d : PyData} {ds : List PyData} : wsCons w ws (d :: ds) S = (w d S).bind (ws ds) := rfl
@[simp] theorem ev_wTup {ws : List PyData → Sls → Option Sls} {ds : List PyData} : wTup ws (.tuple ds) S = ws ds S := rfl
@[simp] theorem ev_iD : iD f S = (f S).bind fun p => (asSeq p.1).bind fun xs => .ok (xs, p.2) := rfl
@[simp] theorem ev_asSeq1 {xs : List PyData} : asSeq (.list xs) = .ok xs := rfl
@[simp] theorem ev_asSeq2 {xs : List PyData} : asSeq (.tuple xs) = .ok xs := rfl
@[simp] theorem ev_iA {op : List PyData → Res (List PyData)} : iA op r S = (r S).bind fun p => (op p.1).bind fun xs => .ok (xs, p.2) := rfl
@[simp] theorem ev_zip1 {xs ys : List PyData} : zipA [.list xs, .list ys] = .ok (pairD xs ys) := rfl
@[simp] theorem ev_zip2 {xs ys : List PyData} : zipA [.tuple xs, .tuple ys] = .ok (pairD xs ys) := rfl
@[simp] theorem ev_eCall0 : eCall0 m r S = (r S).bind fun p => (m (p.1.map Sl.d)).bind fun r => .ok (r.1, p.2) := rfl
@[simp] theorem ev_eCallT : eCallT m g r S = (g S).bind fun p => (r p.2).bind fun q => (m (p.1 :: q.1.map Sl.d)).bind fun r => .ok (r.1, q.2) := rfl
@[simp] theorem ev_eCallK {ix : List Nat} : eCallK ix m r S = (r S).bind fun p => (m ((ix.map (p.1.getD · .none)).map Sl.d)).bind fun r => .ok (r.1, p.2) := rfl
@[simp] theorem ev_putR {x : Sl} {ys : List PyData} {T : Sls} : putR i S (x, .ol ys :: T) = .ok (x, S.set i (.ol ys)) := rfl
@[simp] theorem ev_eCallR : eCallR i m r S = match S[i]? with
  | some (.ol _) => (r S).bind fun p => match p.2[i]? with
    | some (.ol xs) => (m (.ol xs :: p.1.map Sl.d)).bind (putR i p.2)
    | _ => .bad
  | _ => .bad := rfl
@[simp] theorem ev_eCallS : eCallS i m r S = match S[i]? with
  | some (.sc ns) => (r S).bind fun p => (m (.sc ns :: p.1.map Sl.d)).bind fun r => .ok (r.1, p.2)
  | _ => .bad := rfl
@[simp] theorem ev_eIsi {ts : List Ty} : eIsi ts f S = (f S).bind fun p => .ok (.bool (ts.any (isTy · p.1)), p.2) := rfl
@[simp] theorem ev_eMt {op : List PyData → List PyData → Res (PyData × List PyData)} : eMt i op r S = match S[i]? with
  | some (.ol _) => (r S).bind fun p => match p.2[i]? with
    | some (.ol xs) => (op xs p.1).bind fun r => .ok (.d r.1, p.2.set i (.ol r.2))
    | _ => .bad
  | _ => .bad := rfl
@[simp] theorem ev_eIxO : eIxO i f S = match S[i]? with
  | some (.ol _) => (f S).bind fun p => (ixOf p.2[i]? p.1).bind fun r => .ok (r, p.2)
  | some (.d x) => (f S).bind fun p => (dIx x p.1).bind fun r => .ok (r, p.2)
  | _ => .bad := rfl
@[simp] theorem ev_ixOf {xs : List PyData} {k : Int} : ixOf (some (.ol xs)) (.int k) = oS (atI xs k) := rfl
@[simp] theorem ev_dIx1 {xs : List PyData} {k : Int} : dIx (.list xs) (.int k) = oS (atI xs k) := rfl
@[simp] theorem ev_dIx2 {xs : List PyData} {k : Int} : dIx (.tuple xs) (.int k) = oS (atI xs k) := rfl
@[simp] theorem ev_oS {x : PyData} : oS (some x) = .ok (.d x) := rfl
@[simp] theorem ev_eLenO : eLenO i S = match S[i]? with
  | some (.ol xs) => .ok (.int (xs.length : Nat), S)
  | some (.d (.list xs)) => .ok (.int (xs.length : Nat), S)
  | some (.d (.tuple xs)) => .ok (.int (xs.length : Nat), S)
  | some (.sc ns) => .ok (.int (ns.length : Nat), S)
  | _ => .bad := rfl
@[simp] theorem ev_eNewK : eNewK S = .ok (.od [], S) := rfl
@[simp] theorem ev_sPar : sPar i j g1 g2 S = (g1 S).bind fun p => (g2 p.2).bind fun q => .ok (.next, (q.2.set i p.1).set j q.1) := rfl
@[simp] theorem ev_sAsg {w : PyData → Sls → Option Sls} : sAsg f w S = (f S).bind fun p => match w p.1 p.2 with
  | some S' => .ok (.next, S')
  | none => .bad := rfl
@[simp] theorem ev_wIx {d : PyData} : wIx i f d S = match S[i]?, f S with
  | some (.ol _), .ok p => match p.2[i]? with
    | some (.ol xs) => (ixS xs p.1).map fun j => p.2.set i (.ol (xs.set j d))
    | _ => none
  | _, _ => none := rfl
@[simp] theorem ev_eScIx : eScIx i f S = match S[i]? with
  | some (.sc ns) => (f S).bind fun p => (oI (scAt ns p.1)).bind fun r => .ok (r, p.2)
  | _ => .bad := rfl
@[simp] theorem ev_eScSl {fl fh : Sls → Res (Option Int × Sls)} : eScSl i fl fh S = match S[i]? with
  | some (.sc ns) => (fl S).bind fun l => (fh l.2).bind fun h => .ok (.ol (cutD (ns.map .int) l.1 h.1), h.2)
  | _ => .bad := rfl
@[simp] theorem ev_sFor {fi : Sls → Res (List PyData × Sls)} {w : PyData → Sls → Option Sls} : sFor fi w b S = (fi S).bind fun p => forL w b p.1 p.2 := rfl
theorem rng1_ok {k : Int} (h : lim62 k = true) : rng1 [.int k] = .ok (rngD 0 k.toNat) := by
  unfold rng1
  simp only
  rw [if_pos h]
theorem rng2_ok {k n : Int} (h : lim62 k = true) (h2 : lim62 n = true) : rng2 [.int k, .int n] = .ok (rngD k (n - k).toNat) := by
  unfold rng2
  simp only
  rw [if_pos ⟨h, h2⟩]
theorem lim_ok {i : Int} (h : -1000000 ≤ i ∧ i ≤ 1000000) : lim62 i = true := by
  unfold lim62
  rw [decide_eq_true (by omega), decide_eq_true (by omega)]; rfl
theorem rng1_nat {n : Nat} (h : n ≤ 1000000) : rng1 [.int (n : Int)] = .ok (rngD 0 n) := by
  rw [rng1_ok (lim_ok (by omega)), Int.toNat_natCast]
theorem mem_rng {lo : Int} {n : Nat} {d : PyData} (h : d ∈ rngD lo n) : ∃ i : Nat, i < n ∧ d = .int (lo + i) := by
  unfold rngD at h
  obtain ⟨i, h1, rfl⟩ := List.mem_map.mp h
  exact ⟨i, List.mem_range.mp h1, rfl⟩
theorem rng_len (lo : Int) (n : Nat) : (rngD lo n).length = n := by unfold rngD; rw [List.length_map, List.length_range]
end
/-! ### the primitives -/
theorem lt_ii (i j : Int) : PySem.W.dataLt (.int i) (.int j) = decide (i < j) := PySem.W.dataLt_int i j
@[simp] theorem ev_lt (i j : Int) : dLt (.int i) (.int j) = .ok (.d (.bool (decide (i < j)))) := by
  show Res.ok (Sl.d (.bool (PySem.W.dataLt (.int i) (.int j)))) = _
  rw [lt_ii]
@[simp] theorem ev_gt (i j : Int) : dGt (.int i) (.int j) = .ok (.d (.bool (decide (j < i)))) := by
  show Res.ok (Sl.d (.bool (PySem.W.dataLt (.int j) (.int i)))) = _
  rw [lt_ii]
theorem not_lt_dec (i j : Int) : (!decide (i < j)) = decide (j ≤ i) := by
  by_cases h : i < j
  · rw [decide_eq_true h, decide_eq_false (by omega)]; rfl
  · rw [decide_eq_false h, decide_eq_true (by omega)]; rfl
@[simp] theorem ev_le (i j : Int) : dLe (.int i) (.int j) = .ok (.d (.bool (decide (i ≤ j)))) := by
  show Res.ok (Sl.d (.bool (!PySem.W.dataLt (.int j) (.int i)))) = _
  rw [lt_ii, not_lt_dec]
@[simp] theorem ev_ge (i j : Int) : dGe (.int i) (.int j) = .ok (.d (.bool (decide (j ≤ i)))) := by
  show Res.ok (Sl.d (.bool (!PySem.W.dataLt (.int i) (.int j)))) = _
  rw [lt_ii, not_lt_dec]
@[simp] theorem ev_eqI (i j : Int) : dEq (.int i) (.int j) = .ok (.d (.bool (i == j))) := rfl
@[simp] theorem ev_neI (i j : Int) : dNe (.int i) (.int j) = .ok (.d (.bool (!(i == j)))) := rfl
@[simp] theorem ev_eqS (i j : Str) : dEq (.str i) (.str j) = .ok (.d (.bool (i == j))) := rfl
@[simp] theorem ev_neS (i j : Str) : dNe (.str i) (.str j) = .ok (.d (.bool (!(i == j)))) := rfl
theorem dNe_nil (xs : List PyData) : dNe (.list xs) (.list []) = .ok (.d (.bool (!xs.isEmpty))) := by
  cases xs with
  | nil => rfl
  | cons x xs => rfl
theorem dEq_nil (xs : List PyData) : dEq (.list xs) (.list []) = .ok (.d (.bool xs.isEmpty)) := by
  cases xs with
  | nil => rfl
  | cons x xs => rfl
@[simp] theorem ev_add (i j : Int) : dAdd (.int i) (.int j) = .ok (.d (.int (i + j))) := rfl
@[simp] theorem ev_addB (i : Bool) (j : Int) : dAdd (.bool i) (.int j) = .ok (.d (.int (bI i + j))) := rfl
@[simp] theorem ev_sub (i j : Int) : dSub (.int i) (.int j) = .ok (.d (.int (i - j))) := rfl
@[simp] theorem ev_subB (i : Bool) (j : Int) : dSub (.bool i) (.int j) = .ok (.d (.int (bI i - j))) := rfl
theorem ev_mul {i j : Int} (h : (-(2 ^ 64) < i ∧ i < 2 ^ 64) ∨ (-(2 ^ 64) < j ∧ j < 2 ^ 64)) : dMul (.int i) (.int j) = .ok (.d (.int (i * j))) := by
  show (if cMul i j = true then Res.ok (Sl.d (.int (i * j))) else .bad) = _
  rw [if_pos (by unfold cMul; exact decide_eq_true h)]
theorem ev_mod {i j : Int} (h : 0 < j) : dMod (.int i) (.int j) = .ok (.d (.int (i % j))) := by
  show (if 0 < j then Res.ok (Sl.d (.int (i % j))) else .bad) = _
  rw [if_pos h]
theorem ev_fdv {i j : Int} (h : 0 < j ∧ j < 1073741824) : dFdv (.int i) (.int j) = .ok (.d (.int (i / j))) := by
  show (if 0 < j ∧ j < 1073741824 then Res.ok (Sl.d (.int (i / j))) else .bad) = _
  rw [if_pos h]
theorem ev_dvm {i j : Int} (h : 0 < j ∧ j < 1073741824) : dDvm [.int i, .int j] = .ok (.d (.tuple [.int (i / j), .int (i % j)])) := by
  show (if 0 < j ∧ j < 1073741824 then Res.ok (Sl.d (.tuple [.int (i / j), .int (i % j)])) else .bad) = _
  rw [if_pos h]
@[simp] theorem ev_intI (i : Int) : dInt [.int i] = .ok (.d (.int i)) := rfl
@[simp] theorem ev_abs (i : Int) : dAbs [.int i] = .ok (.d (.int (if i < 0 then -i else i))) := rfl
@[simp] theorem ev_max2 (i j : Int) : dMax [.int i, .int j] = .ok (.d (.int (if j > i then j else i))) := rfl
@[simp] theorem ev_min2 (i j : Int) : dMin [.int i, .int j] = .ok (.d (.int (if j < i then j else i))) := rfl
@[simp] theorem ev_lenL (xs : List PyData) : dLen [.list xs] = .ok (.d (.int (xs.length : Nat))) := rfl
@[simp] theorem ev_lenT (xs : List PyData) : dLen [.tuple xs] = .ok (.d (.int (xs.length : Nat))) := rfl
@[simp] theorem ev_tupL (xs : List PyData) : dTup [.list xs] = .ok (.d (.tuple xs)) := rfl
@[simp] theorem ev_tupT (xs : List PyData) : dTup [.tuple xs] = .ok (.d (.tuple xs)) := rfl
@[simp] theorem ev_lisL (xs : List PyData) : dList [.list xs] = .ok (.ol xs) := rfl
@[simp] theorem ev_lisT (xs : List PyData) : dList [.tuple xs] = .ok (.ol xs) := rfl
@[simp] theorem ev_slL (xs : List PyData) (lo hi : Option Int) : dSl (.list xs) lo hi = .ok (.ol (cutD xs lo hi)) := rfl
@[simp] theorem ev_slT (xs : List PyData) (lo hi : Option Int) : dSl (.tuple xs) lo hi = .ok (.d (.tuple (cutD xs lo hi))) := rfl
@[simp] theorem ev_revL (xs : List PyData) : dRev (.list xs) = .ok (.ol xs.reverse) := rfl
@[simp] theorem ev_revT (xs : List PyData) : dRev (.tuple xs) = .ok (.d (.tuple xs.reverse)) := rfl
@[simp] theorem ev_isN (x : PyData) : dIsN x .none = .ok (.d (.bool (isN x))) := rfl
@[simp] theorem ev_notN (x : PyData) : dNotN x .none = .ok (.d (.bool (!isN x))) := rfl
theorem cut1 (xs : List PyData) : cutD xs (some 1) none = xs.drop 1 := by
  unfold cutD
  rw [show HT.sIx xs.length 0 (some 1) = min 1 xs.length from HT.sIx_nat xs.length 0 1, HT.sIx_none]
  cases xs with
  | nil => rfl
  | cons x r =>
    rw [show min 1 (x :: r).length = 1 by rw [List.length_cons]; omega]
    show List.take ((x :: r).length - 1) r = r
    rw [List.length_cons, Nat.add_sub_cancel]
    exact List.take_length
theorem forL_inv {w : PyData → Sls → Option Sls} {g : Sls → Res (Fl × Sls)} (I : Nat → Sls → Prop) : ∀ {ds : List PyData} {S : Sls} {n : Nat}, I n S → (∀ (k : Nat) (d : PyData) (S : Sls), d ∈ ds → I k S → ∃ S1 S2, w d S = some S1 ∧ g S1 = .ok (.next, S2) ∧ I (k + 1) S2) → ∃ S', forL w g ds S = .ok (.next, S') ∧ I (n + ds.length) S'
  | [], S, n, h, _ => ⟨S, rfl, h⟩
  | d :: ds, S, n, h, hs => by
    obtain ⟨S1, S2, h1, h2, h3⟩ := hs n d S (by simp) h
    obtain ⟨S', h4, h5⟩ := forL_inv I (ds := ds) h3 fun k e T he hT => hs k e T (by simp [he]) hT
    refine ⟨S', ?_, by rw [List.length_cons]; rw [show n + (ds.length + 1) = n + 1 + ds.length by omega]; exact h5⟩
    rw [forL, h1]
    simp only [h2, ev_bind]
    exact h4
/-- a comprehension that changes the state -/
theorem lcL_inv {vs : List Nat} {w : PyData → Sls → Option Sls} {ft : Sls → Res (Bool × Sls)} {fe : Sls → Res (PyData × Sls)} (I : Sls → Prop) (R : PyData → Prop) : ∀ {ds : List PyData} {S : Sls}, I S →
    (∀ d ∈ ds, ∀ S, I S → ∃ S1 b S2, w d S = some S1 ∧ ft S1 = .ok (b, S2) ∧ (b = false → I (wipeS S2 vs)) ∧ (b = true → ∃ y S3, fe S2 = .ok (y, S3) ∧ R y ∧ I (wipeS S3 vs))) →
    ∃ ys S', lcL vs w ft fe ds S = .ok (ys, S') ∧ I S' ∧ ys.length ≤ ds.length ∧ ∀ y ∈ ys, R y
  | [], S, h, _ => ⟨[], S, rfl, h, Nat.le_refl _, fun _ z => nomatch z⟩
  | d :: ds, S, h, hs => by
    obtain ⟨S1, b, S2, h1, h2, h3, h4⟩ := hs d (by simp) S h
    cases b with
    | false =>
      obtain ⟨ys, S', h5, h6, h7, h8⟩ := lcL_inv I R (ds := ds) (h3 rfl) fun e he => hs e (by simp [he])
      refine ⟨ys, S', ?_, h6, by rw [List.length_cons]; omega, h8⟩
      rw [lcL, h1]
      simp only [h2]
      exact h5
    | true =>
      obtain ⟨y, S3, g1, g2, g3⟩ := h4 rfl
      obtain ⟨ys, S', h5, h6, h7, h8⟩ := lcL_inv I R (ds := ds) g3 fun e he => hs e (by simp [he])
      refine ⟨y :: ys, S', ?_, h6, by rw [List.length_cons, List.length_cons]; omega, fun z hz => ?_⟩
      · rw [lcL, h1]
        simp only [h2, g1, h5, ev_bind]
      · rcases List.mem_cons.mp hz with rfl | hz
        · exact g2
        · exact h8 z hz
theorem eLc_inv {fi : Sls → Res (List PyData × Sls)} {vs : List Nat} {w : PyData → Sls → Option Sls} {ft : Sls → Res (Bool × Sls)} {fe : Sls → Res (PyData × Sls)} {S S1 : Sls} {xs : List PyData} (I : Sls → Prop) (R : PyData → Prop) (hi : fi S = .ok (xs, S1)) (hl : xs.length ≤ sizeLine) (h0 : I (wipeS S1 vs))
    (h : ∀ d ∈ xs, ∀ S, I S → ∃ S2 b S3, w d S = some S2 ∧ ft S2 = .ok (b, S3) ∧ (b = false → I (wipeS S3 vs)) ∧ (b = true → ∃ y S4, fe S3 = .ok (y, S4) ∧ R y ∧ I (wipeS S4 vs))) :
    ∃ ys S', eLc fi vs w ft fe S = .ok (.ol ys, backS S1 S' vs) ∧ I S' ∧ ys.length ≤ xs.length ∧ ∀ y ∈ ys, R y := by
  obtain ⟨ys, S', h1, h2, h3, h4⟩ := lcL_inv I R h0 h
  refine ⟨ys, S', ?_, h2, h3, h4⟩
  unfold eLc
  rw [hi]
  show ((lcL vs w ft fe xs (wipeS S1 vs)).bind fun r => if r.1.length ≤ sizeLine then Res.ok (Sl.ol r.1, backS S1 r.2 vs) else .bad) = _
  rw [h1]
  show (if ys.length ≤ sizeLine then Res.ok (Sl.ol ys, backS S1 S' vs) else .bad) = _
  rw [if_pos (Nat.le_trans h3 hl)]
end PD

namespace K16
open PySem PySem.Spec PyProof.Rows L2 PD
/-! ### the text -/
def topS (i : Nat) : Stmt := PySem.Challenge.pw_calledpapers_k16_any_values_as_calls.main.body.getD i (.Pass ⟨0, 0, 0, 0⟩)
/-- what the module's names mean, as far as the walk reads them -/
structure Mg (mg : Str → Option Value) : Prop where
  n_abs : mg "abs" = none
  n_all : mg "all" = none
  n_bool : mg "bool" = none
  n_divmod : mg "divmod" = none
  n_int : mg "int" = none
  n_isinstance : mg "isinstance" = none
  n_len : mg "len" = none
  n_list : mg "list" = none
  n_max : mg "max" = none
  n_min : mg "min" = none
  n_range : mg "range" = none
  n_repr : mg "repr" = none
  n_str : mg "str" = none
  n_sum : mg "sum" = none
  n_tuple : mg "tuple" = none
  n_zip : mg "zip" = none
  c_MOST_LOAD : ∃ t, mg "MOST_LOAD" = some (.int 9 t)
  c_MOST_PAPERS : ∃ t, mg "MOST_PAPERS" = some (.int 8 t)
  c_MOST_PEOPLE : ∃ t, mg "MOST_PEOPLE" = some (.int 8 t)
  c_MOST_WANTS : ∃ t, mg "MOST_WANTS" = some (.int 4 t)
theorem hu65 {k : Nat} {A : Around} (r : Room k A) : A.units + 65 < cLine := by have := r.un; omega
/-! is_integer -/
abbrev st_is_integer : Stmt := topS 1
theorem sc_is_integer : FnScope ["value"] ["value"] (defScope st_is_integer) := ⟨rfl, rfl, rfl, by decide +kernel, rfl, by decide +kernel, by decide +kernel⟩
def b_is_integer : Sls → Res (Fl × Sls) :=
  (sRet (lf (eAn (eIsi [.int] (eVar 0)) (eNo (eIsi [.bool] (eVar 0))))))
def m_is_integer : Mir := mFn [] 1 1 b_is_integer
/-! is_count -/
abbrev st_is_count : Stmt := topS 2
theorem sc_is_count : FnScope ["value"] ["value"] (defScope st_is_count) := ⟨rfl, rfl, rfl, by decide +kernel, rfl, by decide +kernel, by decide +kernel⟩
def b_is_count : Sls → Res (Fl × Sls) :=
  (sRet (lf (eAn (dm (eCall0 m_is_integer (aCons (eVar 0) aNil))) (dm (eBin dGe (eVar 0) (eC (.int 0)))))))
def m_is_count : Mir := mFn [] 1 1 b_is_count
/-! is_position -/
abbrev st_is_position : Stmt := topS 3
theorem sc_is_position : FnScope ["value", "many"] ["value", "many"] (defScope st_is_position) := ⟨rfl, rfl, rfl, by decide +kernel, rfl, by decide +kernel, by decide +kernel⟩
def b_is_position : Sls → Res (Fl × Sls) :=
  (sRet (lf (eAn (dm (eCall0 m_is_integer (aCons (eVar 0) aNil))) (eChain dLe dLt (eC (.int 0)) (eVar 0) (eVar 1)))))
def m_is_position : Mir := mFn [] 2 2 b_is_position
/-! is_rising_tuple -/
abbrev st_is_rising_tuple : Stmt := topS 9
theorem sc_is_rising_tuple : FnScope ["value", "many", "one", "other"] ["value", "many"] (defScope st_is_rising_tuple) := ⟨rfl, rfl, rfl, by decide +kernel, rfl, by decide +kernel, by decide +kernel⟩
def b_is_rising_tuple : Sls → Res (Fl × Sls) :=
  (sSeq (sIf (tOrr (tNo (ofE (eIsi [.tuple] (eVar 0)))) (tNo (ofE (dm (eCall dAll (aCons (dm (eLc (iD (eVar 0)) [2] (wName 2) tYs (dm (eCall0 m_is_position (aCons (eVar 2) (aCons (eVar 1) aNil)))))) aNil)))))) (sRet (lf (eC (.bool false)))) sNil)
  (sRet (eCall dAll (aCons (dm (eLc (iA zipA (aCons (eVar 0) (aCons (dm (eSl dSl (eVar 0) (pInt (eC (.int 1))) pNo)) aNil))) [2, 3] (wTup (wsCons (wName 2) (wsCons (wName 3) wsNil))) tYs (dm (eBin dLt (eVar 2) (eVar 3))))) aNil))))
def m_is_rising_tuple : Mir := mFn [] 4 2 b_is_rising_tuple
/-! person_is_right -/
abbrev st_person_is_right : Stmt := topS 10
theorem sc_person_is_right : FnScope ["value", "one"] ["value"] (defScope st_person_is_right) := ⟨rfl, rfl, rfl, by decide +kernel, rfl, by decide +kernel, by decide +kernel⟩
def b_person_is_right : Sls → Res (Fl × Sls) :=
  (sSeq (sIf (tOrr (tNo (ofE (eIsi [.tuple] (eVar 0)))) (ofE (dm (eBin dNe (eLenO 0) (eC (.int 2)))))) (sRet (lf (eC (.bool false)))) sNil)
  (sRet (lf (eAn (dm (eCall dAll (aCons (dm (eLc (iD (eVar 0)) [1] (wName 1) tYs (eAn (dm (eCall0 m_is_count (aCons (eVar 1) aNil))) (dm (eBin dLe (eVar 1) (eC (.int 9))))))) aNil))) (dm (eBin dLe (dm (eIxO 0 (eC (.int 0)))) (dm (eIxO 0 (eC (.int 1))))))))))
def m_person_is_right : Mir := mFn [] 2 1 b_person_is_right
/-! people_are_right -/
abbrev st_people_are_right : Stmt := topS 11
theorem sc_people_are_right : FnScope ["value", "one"] ["value"] (defScope st_people_are_right) := ⟨rfl, rfl, rfl, by decide +kernel, rfl, by decide +kernel, by decide +kernel⟩
def b_people_are_right : Sls → Res (Fl × Sls) :=
  (sRet (lf (eAn (eIsi [.tuple] (eVar 0)) (eAn (eChain dLe dLe (eC (.int 1)) (eLenO 0) (eC (.int 8))) (dm (eCall dAll (aCons (dm (eLc (iD (eVar 0)) [1] (wName 1) tYs (dm (eCall0 m_person_is_right (aCons (eVar 1) aNil))))) aNil)))))))
def m_people_are_right : Mir := mFn [] 2 1 b_people_are_right
/-! paper_is_right -/
abbrev st_paper_is_right : Stmt := topS 12
theorem sc_paper_is_right : FnScope ["people", "value"] ["people", "value"] (defScope st_paper_is_right) := ⟨rfl, rfl, rfl, by decide +kernel, rfl, by decide +kernel, by decide +kernel⟩
def b_paper_is_right : Sls → Res (Fl × Sls) :=
  (sSeq (sIf (tOrr (tNo (ofE (eIsi [.tuple] (eVar 1)))) (ofE (dm (eBin dNe (eLenO 1) (eC (.int 2)))))) (sRet (lf (eC (.bool false)))) sNil)
  (sRet (lf (eAn (dm (eCall0 m_is_count (aCons (dm (eIxO 1 (eC (.int 0)))) aNil))) (eAn (eChain dLe dLe (eC (.int 1)) (dm (eIxO 1 (eC (.int 0)))) (eC (.int 4))) (dm (eCall0 m_is_rising_tuple (aCons (dm (eIxO 1 (eC (.int 1)))) (aCons (eVar 0) aNil)))))))))
def m_paper_is_right : Mir := mFn [] 2 2 b_paper_is_right
/-! papers_are_right -/
abbrev st_papers_are_right : Stmt := topS 13
theorem sc_papers_are_right : FnScope ["people", "value", "one"] ["people", "value"] (defScope st_papers_are_right) := ⟨rfl, rfl, rfl, by decide +kernel, rfl, by decide +kernel, by decide +kernel⟩
def b_papers_are_right : Sls → Res (Fl × Sls) :=
  (sSeq (sIf (tOrr (tNo (ofE (eIsi [.tuple] (eVar 1)))) (tNo (ofE (eChain dLe dLe (eC (.int 1)) (eLenO 1) (eC (.int 8)))))) (sRet (lf (eC (.bool false)))) sNil)
  (sRet (eCall dAll (aCons (dm (eLc (iD (eVar 1)) [2] (wName 2) tYs (dm (eCall0 m_paper_is_right (aCons (eVar 0) (aCons (eVar 2) aNil)))))) aNil))))
def m_papers_are_right : Mir := mFn [] 3 2 b_papers_are_right
/-! tie_is_right -/
abbrev st_tie_is_right : Stmt := topS 14
theorem sc_tie_is_right : FnScope ["people", "value"] ["people", "value"] (defScope st_tie_is_right) := ⟨rfl, rfl, rfl, by decide +kernel, rfl, by decide +kernel, by decide +kernel⟩
def b_tie_is_right : Sls → Res (Fl × Sls) :=
  (sRet (lf (eAn (dm (eCall0 m_is_rising_tuple (aCons (eVar 1) (aCons (eVar 0) aNil)))) (dm (eBin dEq (eLenO 1) (eC (.int 2)))))))
def m_tie_is_right : Mir := mFn [] 2 2 b_tie_is_right
/-! ties_are_right -/
abbrev st_ties_are_right : Stmt := topS 15
theorem sc_ties_are_right : FnScope ["people", "value", "one", "other"] ["people", "value"] (defScope st_ties_are_right) := ⟨rfl, rfl, rfl, by decide +kernel, rfl, by decide +kernel, by decide +kernel⟩
def b_ties_are_right : Sls → Res (Fl × Sls) :=
  (sSeq (sIf (tOrr (tNo (ofE (eIsi [.tuple] (eVar 1)))) (tNo (ofE (dm (eCall dAll (aCons (dm (eLc (iD (eVar 1)) [2] (wName 2) tYs (dm (eCall0 m_tie_is_right (aCons (eVar 0) (aCons (eVar 2) aNil)))))) aNil)))))) (sRet (lf (eC (.bool false)))) sNil)
  (sRet (eCall dAll (aCons (dm (eLc (iA zipA (aCons (eVar 1) (aCons (dm (eSl dSl (eVar 1) (pInt (eC (.int 1))) pNo)) aNil))) [2, 3] (wTup (wsCons (wName 2) (wsCons (wName 3) wsNil))) tYs (dm (eBin dLt (eVar 2) (eVar 3))))) aNil))))
def m_ties_are_right : Mir := mFn [] 4 2 b_ties_are_right
/-! flaw_of -/
abbrev st_flaw_of : Stmt := topS 16
theorem sc_flaw_of : FnScope ["value"] ["value"] (defScope st_flaw_of) := ⟨rfl, rfl, rfl, by decide +kernel, rfl, by decide +kernel, by decide +kernel⟩
def b_flaw_of : Sls → Res (Fl × Sls) :=
  (sSeq (sIf (tOrr (tNo (ofE (eIsi [.tuple] (eVar 0)))) (tOrr (ofE (dm (eBin dNe (eLenO 0) (eC (.int 4))))) (tOrr (tNo (ofE (eIsi [.str] (dm (eIxO 0 (eC (.int 0))))))) (ofE (dm (eBin dNe (dm (eIxO 0 (eC (.int 0)))) (eC (.str "call")))))))) (sRet (lf (eC (.str "form")))) sNil)
  (sSeq (sIf (tNo (ofE (dm (eCall0 m_people_are_right (aCons (dm (eIxO 0 (eC (.int 1)))) aNil))))) (sRet (lf (eC (.str "people")))) sNil)
  (sSeq (sIf (tNo (ofE (dm (eCall0 m_papers_are_right (aCons (dm (eCall dLen (aCons (dm (eIxO 0 (eC (.int 1)))) aNil))) (aCons (dm (eIxO 0 (eC (.int 2)))) aNil)))))) (sRet (lf (eC (.str "papers")))) sNil)
  (sRet (eIf (ofE (dm (eCall0 m_ties_are_right (aCons (dm (eCall dLen (aCons (dm (eIxO 0 (eC (.int 1)))) aNil))) (aCons (dm (eIxO 0 (eC (.int 3)))) aNil))))) (lf (eC .none)) (lf (eC (.str "ties"))))))))
def m_flaw_of : Mir := mFn [] 1 1 b_flaw_of
/-! is_call -/
abbrev st_is_call : Stmt := topS 17
theorem sc_is_call : FnScope ["value"] ["value"] (defScope st_is_call) := ⟨rfl, rfl, rfl, by decide +kernel, rfl, by decide +kernel, by decide +kernel⟩
def b_is_call : Sls → Res (Fl × Sls) :=
  (sRet (eBin dIsN (dm (eCall0 m_flaw_of (aCons (eVar 0) aNil))) (eC .none)))
def m_is_call : Mir := mFn [] 1 1 b_is_call
/-! flaw -/
abbrev st_flaw : Stmt := topS 18
theorem sc_flaw : FnScope ["value"] ["value"] (defScope st_flaw) := ⟨rfl, rfl, rfl, by decide +kernel, rfl, by decide +kernel, by decide +kernel⟩
def b_flaw : Sls → Res (Fl × Sls) :=
  (sRet (eCall0 m_flaw_of (aCons (eVar 0) aNil)))
def m_flaw : Mir := mFn [] 1 1 b_flaw
/-! _law_pot -/
abbrev st__law_pot : Stmt := topS 20
theorem sc__law_pot : FnScope ["script", "k", "cell"] ["script", "k"] (defScope st__law_pot) := ⟨rfl, rfl, rfl, by decide +kernel, rfl, by decide +kernel, by decide +kernel⟩
def b__law_pot : Sls → Res (Fl × Sls) :=
  (sSeq (sSet 2 (eIf (ofE (dm (eBin dLt (eVar 1) (eLenO 0)))) (eCall dAbs (aCons (eScIx 0 (eVar 1)) aNil)) (eBin dAdd (dm (eBin dAdd (dm (eBin dMul (eC (.int 1993)) (eVar 1))) (eC (.int 1291)))) (dm (eBin dMod (dm (eCall dAbs (aCons (dm (eCall dSum (aCons (dm (eScSl 0 pNo (pInt (eC (.int 1))))) aNil))) aNil))) (eC (.int 1000003)))))))
  (sRet (eLst (aCons (dm (eCall dMax (aCons (eC (.int 0)) (aCons (dm (eBin dSub (eVar 2) (dm (eBin dPow (eC (.int 10)) (eC (.int 18)))))) aNil)))) (aCons (dm (eBin dAdd (dm (eBin dMod (dm (eCall dInt (aCons (dm (eBin dAdd (dm (eBin dAdd (dm (eBin dMul (dm (eBin dMod (dm (eCall dInt (aCons (eVar 2) aNil))) (eC (.int 2147483549)))) (eC (.int 40014)))) (dm (eBin dMul (eC (.int 7253)) (eVar 1))))) (eC (.int 1291)))) aNil))) (eC (.int 2147483563)))) (eC (.int 1)))) aNil)))))
def m__law_pot : Mir := mFn [] 3 2 b__law_pot
/-! _law_draw -/
abbrev st__law_draw : Stmt := topS 21
theorem sc__law_draw : FnScope ["pot", "many", "digit"] ["pot", "many"] (defScope st__law_draw) := ⟨rfl, rfl, rfl, by decide +kernel, rfl, by decide +kernel, by decide +kernel⟩
def b__law_draw : Sls → Res (Fl × Sls) :=
  (sSeq (sIf (ofE (dm (eBin dGt (dm (eIxO 0 (eC (.int 0)))) (eC (.int 0))))) (sSeq (sAsg (dm (eCall dDvm (aCons (dm (eIxO 0 (eC (.int 0)))) (aCons (eVar 1) aNil)))) (wTup (wsCons (wIx 0 (eC (.int 0))) (wsCons (wName 2) wsNil))))
  (sRet (mVar 2))) sNil)
  (sSeq (sAsg (dm (eBin dMod (dm (eCall dInt (aCons (dm (eBin dAdd (dm (eBin dMul (dm (eIxO 0 (eC (.int 1)))) (eC (.int 39373)))) (eC (.int 1291)))) aNil))) (eC (.int 2147483587)))) (wIx 0 (eC (.int 1))))
  (sRet (eBin dMod (dm (eCall dInt (aCons (dm (eBin dFdv (dm (eBin dMod (dm (eCall dInt (aCons (dm (eBin dMul (dm (eIxO 0 (eC (.int 1)))) (dm (eIxO 0 (eC (.int 1)))))) aNil))) (eC (.int 2147483563)))) (eC (.int 19)))) aNil))) (eVar 1)))))
def m__law_draw : Mir := mFn [0] 3 2 b__law_draw
/-! _law_pick -/
abbrev st__law_pick : Stmt := topS 22
theorem sc__law_pick : FnScope ["pot", "some"] ["pot", "some"] (defScope st__law_pick) := ⟨rfl, rfl, rfl, by decide +kernel, rfl, by decide +kernel, by decide +kernel⟩
def b__law_pick : Sls → Res (Fl × Sls) :=
  (sRet (eIxO 1 (dm (eCallR 0 m__law_draw (aCons (eLenO 1) aNil)))))
def m__law_pick : Mir := mFn [0] 2 2 b__law_pick
/-! _law_call -/
abbrev st__law_call : Stmt := topS 23
theorem sc__law_call : FnScope ["pot", "most_people", "most_papers", "many", "papers", "people", "person", "load", "paper", "authors", "some", "one", "other"] ["pot", "most_people", "most_papers"] (defScope st__law_call) := ⟨rfl, rfl, rfl, by decide +kernel, rfl, by decide +kernel, by decide +kernel⟩
def b__law_call : Sls → Res (Fl × Sls) :=
  (sSeq (sPar 3 4 (eBin dAdd (eC (.int 1)) (dm (eCallR 0 m__law_draw (aCons (eVar 1) aNil)))) (eLst aNil))
  (sSeq (sSet 5 (eLst aNil))
  (sSeq (sFor (iA rng1 (aCons (eVar 3) aNil)) (wName 6)
  (sSeq (sSet 7 (eCallR 0 m__law_pick (aCons (dm (eLst (aCons (eC (.int 1)) (aCons (eC (.int 2)) (aCons (eC (.int 3)) (aCons (dm (eCallR 0 m__law_draw (aCons (eC (.int 10)) aNil))) aNil)))))) aNil)))
  (sDrop (eMt 5 oApp (aCons (eTup (aCons (dm (eCallR 0 m__law_pick (aCons (dm (eLst (aCons (eC (.int 0)) (aCons (eC (.int 0)) (aCons (eC (.int 0)) (aCons (dm (eCallR 0 m__law_draw (aCons (dm (eBin dAdd (eVar 7) (eC (.int 1)))) aNil))) aNil)))))) aNil))) (aCons (eVar 7) aNil))) aNil)))))
  (sSeq (sFor (iA rng1 (aCons (dm (eBin dAdd (eC (.int 1)) (dm (eCallR 0 m__law_draw (aCons (eVar 2) aNil))))) aNil)) (wName 8)
  (sSeq (sSet 9 (eCall dTup (aCons (dm (eLc (iA rng1 (aCons (eVar 3) aNil)) [6] (wName 6) (ofE (dm (eBin dEq (dm (eCallR 0 m__law_draw (aCons (eC (.int 5)) aNil))) (eC (.int 0))))) (eVar 6))) aNil)))
  (sDrop (eMt 4 oApp (aCons (eTup (aCons (dm (eCallR 0 m__law_pick (aCons (dm (eLst (aCons (eC (.int 1)) (aCons (eC (.int 1)) (aCons (eC (.int 2)) (aCons (dm (eBin dAdd (eC (.int 1)) (dm (eCallR 0 m__law_draw (aCons (eC (.int 4)) aNil))))) aNil)))))) aNil))) (aCons (eVar 9) aNil))) aNil)))))
  (sSeq (sSet 10 (eLst aNil))
  (sSeq (sFor (iA rng1 (aCons (eVar 3) aNil)) (wName 11)
  (sDrop (eMt 10 oExt (aCons (dm (eLc (iA rng2 (aCons (dm (eBin dAdd (eVar 11) (eC (.int 1)))) (aCons (eVar 3) aNil))) [12] (wName 12) (ofE (dm (eBin dEq (dm (eCallR 0 m__law_draw (aCons (eC (.int 4)) aNil))) (eC (.int 0))))) (eTup (aCons (eVar 11) (aCons (eVar 12) aNil))))) aNil))))
  (sRet (lf (eTup (aCons (eC (.str "call")) (aCons (dm (eCall dTup (aCons (eVar 5) aNil))) (aCons (dm (eCall dTup (aCons (eVar 4) aNil))) (aCons (dm (eCall dTup (aCons (eVar 10) aNil))) aNil)))))))))))))
def m__law_call : Mir := mFn [0] 13 3 b__law_call
/-! _law_is_count -/
abbrev st__law_is_count : Stmt := topS 24
theorem sc__law_is_count : FnScope ["value", "least", "most"] ["value", "least", "most"] (defScope st__law_is_count) := ⟨rfl, rfl, rfl, by decide +kernel, rfl, by decide +kernel, by decide +kernel⟩
def b__law_is_count : Sls → Res (Fl × Sls) :=
  (sRet (lf (eAn (eIsi [.int] (eVar 0)) (eAn (eNo (eIsi [.bool] (eVar 0))) (eChain dLe dLe (eVar 1) (eVar 0) (eVar 2))))))
def m__law_is_count : Mir := mFn [] 3 3 b__law_is_count
/-! _law_is_rising -/
abbrev st__law_is_rising : Stmt := topS 25
theorem sc__law_is_rising : FnScope ["value", "many", "one", "other"] ["value", "many"] (defScope st__law_is_rising) := ⟨rfl, rfl, rfl, by decide +kernel, rfl, by decide +kernel, by decide +kernel⟩
def b__law_is_rising : Sls → Res (Fl × Sls) :=
  (sSeq (sIf (tOrr (tNo (ofE (eIsi [.tuple] (eVar 0)))) (ofE (dm (eBin dNe (dm (eLc (iD (eVar 0)) [2] (wName 2) (tNo (ofE (dm (eCall0 m__law_is_count (aCons (eVar 2) (aCons (eC (.int 0)) (aCons (dm (eBin dSub (eVar 1) (eC (.int 1)))) aNil))))))) (eVar 2))) (dm (eLst aNil)))))) (sRet (lf (eC (.bool false)))) sNil)
  (sRet (eBin dEq (dm (eLc (iA zipA (aCons (eVar 0) (aCons (dm (eSl dSl (eVar 0) (pInt (eC (.int 1))) pNo)) aNil))) [2, 3] (wTup (wsCons (wName 2) (wsCons (wName 3) wsNil))) (ofE (dm (eBin dGe (eVar 2) (eVar 3)))) (eVar 2))) (dm (eLst aNil)))))
def m__law_is_rising : Mir := mFn [] 4 2 b__law_is_rising
/-! _law_is_person -/
abbrev st__law_is_person : Stmt := topS 26
theorem sc__law_is_person : FnScope ["value", "one"] ["value"] (defScope st__law_is_person) := ⟨rfl, rfl, rfl, by decide +kernel, rfl, by decide +kernel, by decide +kernel⟩
def b__law_is_person : Sls → Res (Fl × Sls) :=
  (sSeq (sIf (tOrr (tNo (ofE (eIsi [.tuple] (eVar 0)))) (tOrr (ofE (dm (eBin dNe (eLenO 0) (eC (.int 2))))) (ofE (dm (eBin dNe (dm (eLc (iD (eVar 0)) [1] (wName 1) (tNo (ofE (dm (eCall0 m__law_is_count (aCons (eVar 1) (aCons (eC (.int 0)) (aCons (eC (.int 9)) aNil))))))) (eVar 1))) (dm (eLst aNil))))))) (sRet (lf (eC (.bool false)))) sNil)
  (sRet (eBin dLe (dm (eIxO 0 (eC (.int 0)))) (dm (eIxO 0 (eC (.int 1)))))))
def m__law_is_person : Mir := mFn [] 2 1 b__law_is_person
/-! _law_is_paper -/
abbrev st__law_is_paper : Stmt := topS 27
theorem sc__law_is_paper : FnScope ["many", "value"] ["many", "value"] (defScope st__law_is_paper) := ⟨rfl, rfl, rfl, by decide +kernel, rfl, by decide +kernel, by decide +kernel⟩
def b__law_is_paper : Sls → Res (Fl × Sls) :=
  (sRet (lf (eAn (eIsi [.tuple] (eVar 1)) (eAn (dm (eBin dEq (eLenO 1) (eC (.int 2)))) (eAn (dm (eCall0 m__law_is_count (aCons (dm (eIxO 1 (eC (.int 0)))) (aCons (eC (.int 1)) (aCons (eC (.int 4)) aNil))))) (dm (eCall0 m__law_is_rising (aCons (dm (eIxO 1 (eC (.int 1)))) (aCons (eVar 0) aNil)))))))))
def m__law_is_paper : Mir := mFn [] 2 2 b__law_is_paper
/-! _law_is_tie -/
abbrev st__law_is_tie : Stmt := topS 28
theorem sc__law_is_tie : FnScope ["many", "value"] ["many", "value"] (defScope st__law_is_tie) := ⟨rfl, rfl, rfl, by decide +kernel, rfl, by decide +kernel, by decide +kernel⟩
def b__law_is_tie : Sls → Res (Fl × Sls) :=
  (sRet (lf (eAn (eIsi [.tuple] (eVar 1)) (eAn (dm (eBin dEq (eLenO 1) (eC (.int 2)))) (dm (eCall0 m__law_is_rising (aCons (eVar 1) (aCons (eVar 0) aNil))))))))
def m__law_is_tie : Mir := mFn [] 2 2 b__law_is_tie
/-! _law_flaw -/
abbrev st__law_flaw : Stmt := topS 29
theorem sc__law_flaw : FnScope ["value", "many", "one", "other"] ["value"] (defScope st__law_flaw) := ⟨rfl, rfl, rfl, by decide +kernel, rfl, by decide +kernel, by decide +kernel⟩
def b__law_flaw : Sls → Res (Fl × Sls) :=
  (sSeq (sIf (tOrr (tNo (ofE (eIsi [.tuple] (eVar 0)))) (tOrr (ofE (dm (eBin dNe (eLenO 0) (eC (.int 4))))) (tOrr (tNo (ofE (eIsi [.str] (dm (eIxO 0 (eC (.int 0))))))) (ofE (dm (eBin dNe (dm (eIxO 0 (eC (.int 0)))) (eC (.str "call")))))))) (sRet (lf (eC (.str "form")))) sNil)
  (sSeq (sIf (tOrr (tNo (ofE (eIsi [.tuple] (dm (eIxO 0 (eC (.int 1))))))) (tOrr (tNo (ofE (eChain dLe dLe (eC (.int 1)) (dm (eCall dLen (aCons (dm (eIxO 0 (eC (.int 1)))) aNil))) (eC (.int 8))))) (ofE (dm (eBin dNe (dm (eLc (iD (dm (eIxO 0 (eC (.int 1))))) [2] (wName 2) (tNo (ofE (dm (eCall0 m__law_is_person (aCons (eVar 2) aNil))))) (eVar 2))) (dm (eLst aNil))))))) (sRet (lf (eC (.str "people")))) sNil)
  (sSeq (sSet 1 (eCall dLen (aCons (dm (eIxO 0 (eC (.int 1)))) aNil)))
  (sSeq (sIf (tOrr (tNo (ofE (eIsi [.tuple] (dm (eIxO 0 (eC (.int 2))))))) (tOrr (tNo (ofE (eChain dLe dLe (eC (.int 1)) (dm (eCall dLen (aCons (dm (eIxO 0 (eC (.int 2)))) aNil))) (eC (.int 8))))) (ofE (dm (eBin dNe (dm (eLc (iD (dm (eIxO 0 (eC (.int 2))))) [2] (wName 2) (tNo (ofE (dm (eCall0 m__law_is_paper (aCons (eVar 1) (aCons (eVar 2) aNil)))))) (eVar 2))) (dm (eLst aNil))))))) (sRet (lf (eC (.str "papers")))) sNil)
  (sSeq (sIf (tOrr (tNo (ofE (eIsi [.tuple] (dm (eIxO 0 (eC (.int 3))))))) (ofE (dm (eBin dNe (dm (eLc (iD (dm (eIxO 0 (eC (.int 3))))) [2] (wName 2) (tNo (ofE (dm (eCall0 m__law_is_tie (aCons (eVar 1) (aCons (eVar 2) aNil)))))) (eVar 2))) (dm (eLst aNil)))))) (sRet (lf (eC (.str "ties")))) sNil)
  (sRet (eIf (ofE (dm (eBin dNe (dm (eLc (iA zipA (aCons (dm (eIxO 0 (eC (.int 3)))) (aCons (dm (eSl dSl (dm (eIxO 0 (eC (.int 3)))) (pInt (eC (.int 1))) pNo)) aNil))) [2, 3] (wTup (wsCons (wName 2) (wsCons (wName 3) wsNil))) (ofE (dm (eBin dGe (eVar 2) (eVar 3)))) (eVar 2))) (dm (eLst aNil))))) (lf (eC (.str "ties"))) (lf (eC .none)))))))))
def m__law_flaw : Mir := mFn [] 4 1 b__law_flaw
/-! _law_bent -/
abbrev st__law_bent : Stmt := topS 30
theorem sc__law_bent : FnScope ["pot", "value", "other", "at", "new"] ["pot", "value"] (defScope st__law_bent) := ⟨rfl, rfl, rfl, by decide +kernel, rfl, by decide +kernel, by decide +kernel⟩
def b__law_bent (m_rec : Mir) : Sls → Res (Fl × Sls) :=
  (sSeq (sIf (ofE (eIsi [.str] (eVar 1))) (sRet (eCallR 0 m__law_pick (aCons (dm (eLst (aCons (eC (.str "Call")) (aCons (eC (.str "")) (aCons (eC .none) (aCons (eC (.str "call")) aNil)))))) aNil))) sNil)
  (sSeq (sIf (tNo (ofE (eIsi [.list, .tuple] (eVar 1)))) (sRet (eCallR 0 m__law_pick (aCons (dm (eBin dAdd (dm (eLst (aCons (eC .none) (aCons (eC (.int 0)) (aCons (eC (.int 1)) (aCons (eC (.int 4)) (aCons (eC (.int 5)) (aCons (eC (.int 9)) (aCons (eC (.int 10)) (aCons (eC (.bool true)) (aCons (eC (.bool false)) (aCons (dm (eCall dStr (aCons (eVar 1) aNil))) aNil)))))))))))) (dm (eIf (ofE (eIsi [.int] (eVar 1))) (eLst (aCons (dm (eBin dAdd (eVar 1) (eC (.int 1)))) (aCons (dm (eBin dSub (eVar 1) (eC (.int 1)))) aNil))) (eLst aNil))))) aNil))) sNil)
  (sSeq (sIf (tOrr (ofE (dm (eBin dEq (eLenO 1) (eC (.int 0))))) (ofE (dm (eBin dEq (dm (eCallR 0 m__law_draw (aCons (eC (.int 4)) aNil))) (eC (.int 0)))))) (sSeq (sSet 2 (eIf (ofE (eIsi [.tuple] (eVar 1))) (eCall dList (aCons (eVar 1) aNil)) (eCall dTup (aCons (eVar 1) aNil))))
  (sRet (eCallR 0 m__law_pick (aCons (dm (eLst (aCons (dm (eSl dSl (eVar 1) pNo (pInt (dm (eUn dNeg (eC (.int 1))))))) (aCons (dm (eBin dAdd (eVar 1) (dm (eSl dSl (eVar 1) (pInt (dm (eUn dNeg (eC (.int 1))))) pNo)))) (aCons (eVar 2) (aCons (eC .none) (aCons (dm (eUn dRev (eVar 1))) (aCons (dm (eBin dMul (eVar 1) (eC (.int 5)))) (aCons (dm eNewK) aNil))))))))) aNil)))) sNil)
  (sSeq (sSet 3 (eCallR 0 m__law_draw (aCons (eLenO 1) aNil)))
  (sSeq (sSet 4 (eCallR 0 m_rec (aCons (dm (eIxO 1 (eVar 3))) aNil)))
  (sRet (eBin dAdd (dm (eBin dAdd (dm (eSl dSl (eVar 1) pNo (pInt (eVar 3)))) (dm (eIf (ofE (eIsi [.tuple] (eVar 1))) (lf (eTup (aCons (eVar 4) aNil))) (eLst (aCons (eVar 4) aNil)))))) (dm (eSl dSl (eVar 1) (pInt (dm (eBin dAdd (eVar 3) (eC (.int 1))))) pNo)))))))))
def m__law_bent : Nat → Mir
  | 0 => fun _ => .bad
  | n + 1 => mFn [0] 5 2 (b__law_bent (m__law_bent n))
/-! _law_right -/
abbrev st__law_right : Stmt := topS 31
theorem sc__law_right : FnScope ["pot", "call", "values", "turn", "one", "value", "before", "due"] ["pot"] (defScope st__law_right) := ⟨rfl, rfl, rfl, by decide +kernel, rfl, by decide +kernel, by decide +kernel⟩
def b__law_right : Sls → Res (Fl × Sls) :=
  (sSeq (sSet 1 (eCallR 0 m__law_call (aCons (eC (.int 5)) (aCons (eC (.int 5)) aNil))))
  (sSeq (sSet 2 (eLst (aCons (eVar 1) (aCons (eC .none) (aCons (eC (.int 0)) (aCons (eC (.str "call")) (aCons (eTup aNil) (aCons (dm (eLst aNil)) (aCons (dm eNewK) (aCons (dm (eCall dList (aCons (eVar 1) aNil))) (aCons (dm (eSl dSl (eVar 1) pNo (pInt (eC (.int 3))))) (aCons (eTup (aCons (eC (.str "call")) (aCons (eTup aNil) (aCons (eTup aNil) (aCons (eTup aNil) aNil))))) (aCons (eTup (aCons (eC (.str "call")) (aCons (eTup (aCons (eTup (aCons (eC (.int 0)) (aCons (eC (.int 0)) aNil))) aNil)) (aCons (eTup (aCons (eTup (aCons (eC (.int 1)) (aCons (eTup aNil) aNil))) aNil)) (aCons (eTup aNil) aNil))))) aNil)))))))))))))
  (sSeq (sFor (iA rng1 (aCons (eC (.int 8)) aNil)) (wName 3)
  (sSeq (sSet 4 (eCallR 0 (m__law_bent 6) (aCons (eVar 1) aNil)))
  (sDrop (eMt 2 oExt (aCons (dm (eLst (aCons (eVar 4) (aCons (dm (eCallR 0 (m__law_bent 6) (aCons (eVar 4) aNil))) aNil)))) aNil)))))
  (sSeq (sFor (iD (eVar 2)) (wName 5)
  (sSeq (sPar 6 7 (eCall dRepr (aCons (eVar 5) aNil)) (eCall0 m__law_flaw (aCons (eVar 5) aNil)))
  (sIf (tOrr (ofE (dm (eBin dNe (dm (eCall dRepr (aCons (dm (eLst (aCons (dm (eCall0 m_flaw (aCons (eVar 5) aNil))) (aCons (dm (eCallK [0] m_flaw (aCons (eVar 5) aNil))) (aCons (dm (eCall0 m_is_call (aCons (eVar 5) aNil))) (aCons (dm (eCallK [0] m_is_call (aCons (eVar 5) aNil))) aNil)))))) aNil))) (dm (eCall dRepr (aCons (dm (eLst (aCons (eVar 7) (aCons (eVar 7) (aCons (dm (eBin dIsN (eVar 7) (eC .none))) (aCons (dm (eBin dIsN (eVar 7) (eC .none))) aNil)))))) aNil)))))) (ofE (dm (eBin dNe (dm (eCall dRepr (aCons (eVar 5) aNil))) (eVar 6))))) (sRet (lf (eC (.bool false)))) sNil)))
  (sRet (lf (eC (.bool true))))))))
def m__law_right : Mir := mFn [0] 8 1 b__law_right
/-! law -/
abbrev st_law : Stmt := topS 32
theorem sc_law : FnScope ["script", "k"] ["script"] (defScope st_law) := ⟨rfl, rfl, rfl, by decide +kernel, rfl, by decide +kernel, by decide +kernel⟩
def b_law : Sls → Res (Fl × Sls) :=
  (sRet (eCall dAll (aCons (dm (eLc (iA rng1 (aCons (dm (eCall dMax (aCons (eC (.int 1)) (aCons (dm (eCall dMin (aCons (eC (.int 3)) (aCons (eLenO 0) aNil)))) aNil)))) aNil)) [1] (wName 1) tYs (dm (eCallT m__law_right (eCallS 0 m__law_pot (aCons (eVar 1) aNil)) aNil)))) aNil)))
def m_law : Mir := mFn [] 2 1 b_law
section
variable {Pr : Program} {w : World} {K : PySem.W.Frag} {mg : Str → Option Value} {base : Heap}
theorem G_is_integer (M : Mg mg) {f : Addr} {fd : FuncData} (D : DefIs K mg "is_integer" st_is_integer ["value"] f fd)  : FnG Pr w K mg base 1 f fd ["value"] (spF K mg 1 m_is_integer) :=
  fn_D (P := []) D.fn sc_is_integer (by decide) (by decide) (fun cdv A outer s H E hgd hr =>
    let scN := sc_is_integer.nd
    (pss_oneD (ps_retD (pe_lf (pe_anD (pe_isi1 .int (pe_vE (pv 0)) (by rfl) M.n_isinstance (by rfl) M.n_int) (L2.pe_one (pe_noD (pe_isi1 .bool (pe_vE (pv 0)) (by rfl) M.n_isinstance (by rfl) M.n_bool))))))))
theorem G_is_count (M : Mg mg) {f : Addr} {fd : FuncData} (D : DefIs K mg "is_count" st_is_count ["value"] f fd) (O_is_integer : Ok Pr w K mg base 1 "is_integer" ["value"] m_is_integer) : FnG Pr w K mg base 2 f fd ["value"] (spF K mg 1 m_is_count) :=
  fn_D (P := []) D.fn sc_is_count (by decide) (by decide) (fun cdv A outer s H E hgd hr =>
    let scN := sc_is_count.nd
    (pss_oneD (ps_retD (pe_lf (pe_anD (pe_dm (pe_call0D O_is_integer hgd (hr.mono (by decide)) (by rfl) (passes_call (takes_of rfl rfl rfl rfl) (fun _ _ _ _ h => h)) (an_cons (pe_vE (pv 0)) an_nil))) (L2.pe_one (pe_dm (pe_cmpD (op_geD hr.units) oB_ne (by rfl) (pe_vE (pv 0)) pe_iC))))))))
theorem G_is_position (M : Mg mg) {f : Addr} {fd : FuncData} (D : DefIs K mg "is_position" st_is_position ["value", "many"] f fd) (O_is_integer : Ok Pr w K mg base 1 "is_integer" ["value"] m_is_integer) : FnG Pr w K mg base 2 f fd ["value", "many"] (spF K mg 2 m_is_position) :=
  fn_D (P := []) D.fn sc_is_position (by decide) (by decide) (fun cdv A outer s H E hgd hr =>
    let scN := sc_is_position.nd
    (pss_oneD (ps_retD (pe_lf (pe_anD (pe_dm (pe_call0D O_is_integer hgd (hr.mono (by decide)) (by rfl) (passes_call (takes_of rfl rfl rfl rfl) (fun _ _ _ _ h => h)) (an_cons (pe_vE (pv 0)) an_nil))) (L2.pe_one (pe_chainD (op_leD hr.units) (op_ltD hr.units) oB_ne oB_ne pe_iC (pe_vE (pv 0)) (pe_vE (pv 1)))))))))
theorem G_is_rising_tuple (M : Mg mg) {f : Addr} {fd : FuncData} (D : DefIs K mg "is_rising_tuple" st_is_rising_tuple ["value", "many"] f fd) (O_is_position : Ok Pr w K mg base 2 "is_position" ["value", "many"] m_is_position) : FnG Pr w K mg base 3 f fd ["value", "many"] (spF K mg 2 m_is_rising_tuple) :=
  fn_D (P := []) D.fn sc_is_rising_tuple (by decide) (by decide) (fun cdv A outer s H E hgd hr =>
    let scN := sc_is_rising_tuple.nd
    (pss_consD (ps_ifD ((pw_orD (pt_noD (pt_E (pe_isi1 .tuple (pe_vE (pv 0)) (by rfl) M.n_isinstance (by rfl) M.n_tuple))) (pw_one (pt_noD (pt_E (pe_dm (pe_blt (call_allD rfl) dAll_ne (by rfl) M.n_all PyProof.Rows.boot_all (an_cons (pe_dm (pe_lcD rfl scN (pi_D rfl (pe_vE (pv 0))) (own := [("one", 2)]) (blkOk_by (by kernel_rfl)) (by decide) (fun _ _ _ _ _ => (pg_nameD (i := 2) scN rfl (by first | exact .inl rfl | exact .inr rfl))) (fun _ _ _ _ _ => pts_nilD) (fun _ _ _ _ _ => (pe_dm (pe_call0D O_is_position hgd (hr.mono (by decide)) (by rfl) passL (an_cons (pe_vE (pv 2)) (an_cons (pe_vE (pv 1)) an_nil))))))) an_nil))))) (.inr rfl)))).pt (pss_oneD (ps_retD (pe_lf pe_bC))) pss_nilD)
  (pss_oneD (ps_retD (pe_blt (call_allD rfl) dAll_ne (by rfl) M.n_all PyProof.Rows.boot_all (an_cons (pe_dm (pe_lcD rfl scN (pi_zipD rfl (by rfl) M.n_zip (an_cons (pe_vE (pv 0)) (an_cons (pe_dm (pe_slD sl_D dSl_ne (pe_vE (pv 0)) (po_int pe_iC) po_no)) an_nil))) (own := [("one", 2), ("other", 3)]) (blkOk_by (by kernel_rfl)) (by decide) (fun _ _ _ _ _ => (pg_tupD rfl (pgs_consD (pg_nameD (i := 2) scN rfl (by first | exact .inl rfl | exact .inr rfl)) (pgs_consD (pg_nameD (i := 3) scN rfl (by first | exact .inl rfl | exact .inr rfl)) pgs_nilD)) (ws_lenS (ws_lenS ws_len0)))) (fun _ _ _ _ _ => pts_nilD) (fun _ _ _ _ _ => (pe_dm (pe_cmpD (op_ltD hr.units) oB_ne (by rfl) (pe_vE (pv 2)) (pe_vE (pv 3))))))) an_nil))))))
theorem G_person_is_right (M : Mg mg) {f : Addr} {fd : FuncData} (D : DefIs K mg "person_is_right" st_person_is_right ["value"] f fd) (O_is_count : Ok Pr w K mg base 2 "is_count" ["value"] m_is_count) : FnG Pr w K mg base 3 f fd ["value"] (spF K mg 1 m_person_is_right) :=
  fn_D (P := []) D.fn sc_person_is_right (by decide) (by decide) (fun cdv A outer s H E hgd hr =>
    let scN := sc_person_is_right.nd
    (pss_consD (ps_ifD ((pw_orD (pt_noD (pt_E (pe_isi1 .tuple (pe_vE (pv 0)) (by rfl) M.n_isinstance (by rfl) M.n_tuple))) (pw_one (pt_cmpD (op_neD' hr.units) oB_ne (by rfl) (pe_lenO (pv 0) (by rfl) M.n_len) pe_iC) (.inr rfl)))).pt (pss_oneD (ps_retD (pe_lf pe_bC))) pss_nilD)
  (pss_oneD (ps_retD (pe_lf (pe_anD (pe_dm (pe_blt (call_allD rfl) dAll_ne (by rfl) M.n_all PyProof.Rows.boot_all (an_cons (pe_dm (pe_lcD rfl scN (pi_D rfl (pe_vE (pv 0))) (own := [("one", 1)]) (blkOk_by (by kernel_rfl)) (by decide) (fun _ _ _ _ _ => (pg_nameD (i := 1) scN rfl (by first | exact .inl rfl | exact .inr rfl))) (fun _ _ _ _ _ => pts_nilD) (fun _ _ _ _ _ => (pe_anD (pe_dm (pe_call0D O_is_count hgd (hr.mono (by decide)) (by rfl) passL (an_cons (pe_vE (pv 1)) an_nil))) (L2.pe_one (pe_dm (pe_cmpD (op_leD hr.units) oB_ne (by rfl) (pe_vE (pv 1)) (pe_gI (by rfl) M.c_MOST_LOAD)))))))) an_nil))) (L2.pe_one (pe_dm (pe_cmpD (op_leD hr.units) oB_ne (by rfl) (pe_dm (pe_ixO (pv 0) pe_iC (fun _ _ => rfl))) (pe_dm (pe_ixO (pv 0) pe_iC (fun _ _ => rfl))))))))))))
theorem G_people_are_right (M : Mg mg) {f : Addr} {fd : FuncData} (D : DefIs K mg "people_are_right" st_people_are_right ["value"] f fd) (O_person_is_right : Ok Pr w K mg base 3 "person_is_right" ["value"] m_person_is_right) : FnG Pr w K mg base 4 f fd ["value"] (spF K mg 1 m_people_are_right) :=
  fn_D (P := []) D.fn sc_people_are_right (by decide) (by decide) (fun cdv A outer s H E hgd hr =>
    let scN := sc_people_are_right.nd
    (pss_oneD (ps_retD (pe_lf (pe_anD (pe_isi1 .tuple (pe_vE (pv 0)) (by rfl) M.n_isinstance (by rfl) M.n_tuple) (pe_anD (pe_chainD (op_leD hr.units) (op_leD hr.units) oB_ne oB_ne pe_iC (pe_lenO (pv 0) (by rfl) M.n_len) (pe_gI (by rfl) M.c_MOST_PEOPLE)) (L2.pe_one (pe_dm (pe_blt (call_allD rfl) dAll_ne (by rfl) M.n_all PyProof.Rows.boot_all (an_cons (pe_dm (pe_lcD rfl scN (pi_D rfl (pe_vE (pv 0))) (own := [("one", 1)]) (blkOk_by (by kernel_rfl)) (by decide) (fun _ _ _ _ _ => (pg_nameD (i := 1) scN rfl (by first | exact .inl rfl | exact .inr rfl))) (fun _ _ _ _ _ => pts_nilD) (fun _ _ _ _ _ => (pe_dm (pe_call0D O_person_is_right hgd (hr.mono (by decide)) (by rfl) passL (an_cons (pe_vE (pv 1)) an_nil)))))) an_nil))))))))))
theorem G_paper_is_right (M : Mg mg) {f : Addr} {fd : FuncData} (D : DefIs K mg "paper_is_right" st_paper_is_right ["people", "value"] f fd) (O_is_rising_tuple : Ok Pr w K mg base 3 "is_rising_tuple" ["value", "many"] m_is_rising_tuple) (O_is_count : Ok Pr w K mg base 2 "is_count" ["value"] m_is_count) : FnG Pr w K mg base 4 f fd ["people", "value"] (spF K mg 2 m_paper_is_right) :=
  fn_D (P := []) D.fn sc_paper_is_right (by decide) (by decide) (fun cdv A outer s H E hgd hr =>
    let scN := sc_paper_is_right.nd
    (pss_consD (ps_ifD ((pw_orD (pt_noD (pt_E (pe_isi1 .tuple (pe_vE (pv 1)) (by rfl) M.n_isinstance (by rfl) M.n_tuple))) (pw_one (pt_cmpD (op_neD' hr.units) oB_ne (by rfl) (pe_lenO (pv 1) (by rfl) M.n_len) pe_iC) (.inr rfl)))).pt (pss_oneD (ps_retD (pe_lf pe_bC))) pss_nilD)
  (pss_oneD (ps_retD (pe_lf (pe_anD (pe_dm (pe_call0D O_is_count hgd (hr.mono (by decide)) (by rfl) (passes_call (takes_of rfl rfl rfl rfl) (fun _ _ _ _ h => h)) (an_cons (pe_dm (pe_ixO (pv 1) pe_iC (fun _ _ => rfl))) an_nil))) (pe_anD (pe_chainD (op_leD hr.units) (op_leD hr.units) oB_ne oB_ne pe_iC (pe_dm (pe_ixO (pv 1) pe_iC (fun _ _ => rfl))) (pe_gI (by rfl) M.c_MOST_WANTS)) (L2.pe_one (pe_dm (pe_call0D O_is_rising_tuple hgd (hr.mono (by decide)) (by rfl) (passes_call (takes_of rfl rfl rfl rfl) (fun _ _ _ _ h => h)) (an_cons (pe_dm (pe_ixO (pv 1) pe_iC (fun _ _ => rfl))) (an_cons (pe_vE (pv 0)) an_nil))))))))))))
theorem G_papers_are_right (M : Mg mg) {f : Addr} {fd : FuncData} (D : DefIs K mg "papers_are_right" st_papers_are_right ["people", "value"] f fd) (O_paper_is_right : Ok Pr w K mg base 4 "paper_is_right" ["people", "value"] m_paper_is_right) : FnG Pr w K mg base 5 f fd ["people", "value"] (spF K mg 2 m_papers_are_right) :=
  fn_D (P := []) D.fn sc_papers_are_right (by decide) (by decide) (fun cdv A outer s H E hgd hr =>
    let scN := sc_papers_are_right.nd
    (pss_consD (ps_ifD ((pw_orD (pt_noD (pt_E (pe_isi1 .tuple (pe_vE (pv 1)) (by rfl) M.n_isinstance (by rfl) M.n_tuple))) (pw_one (pt_noD (pt_chainD (op_leD hr.units) (op_leD hr.units) oB_ne oB_ne pe_iC (pe_lenO (pv 1) (by rfl) M.n_len) (pe_gI (by rfl) M.c_MOST_PAPERS))) (.inr rfl)))).pt (pss_oneD (ps_retD (pe_lf pe_bC))) pss_nilD)
  (pss_oneD (ps_retD (pe_blt (call_allD rfl) dAll_ne (by rfl) M.n_all PyProof.Rows.boot_all (an_cons (pe_dm (pe_lcD rfl scN (pi_D rfl (pe_vE (pv 1))) (own := [("one", 2)]) (blkOk_by (by kernel_rfl)) (by decide) (fun _ _ _ _ _ => (pg_nameD (i := 2) scN rfl (by first | exact .inl rfl | exact .inr rfl))) (fun _ _ _ _ _ => pts_nilD) (fun _ _ _ _ _ => (pe_dm (pe_call0D O_paper_is_right hgd (hr.mono (by decide)) (by rfl) passL (an_cons (pe_vE (pv 0)) (an_cons (pe_vE (pv 2)) an_nil))))))) an_nil))))))
theorem G_tie_is_right (M : Mg mg) {f : Addr} {fd : FuncData} (D : DefIs K mg "tie_is_right" st_tie_is_right ["people", "value"] f fd) (O_is_rising_tuple : Ok Pr w K mg base 3 "is_rising_tuple" ["value", "many"] m_is_rising_tuple) : FnG Pr w K mg base 4 f fd ["people", "value"] (spF K mg 2 m_tie_is_right) :=
  fn_D (P := []) D.fn sc_tie_is_right (by decide) (by decide) (fun cdv A outer s H E hgd hr =>
    let scN := sc_tie_is_right.nd
    (pss_oneD (ps_retD (pe_lf (pe_anD (pe_dm (pe_call0D O_is_rising_tuple hgd (hr.mono (by decide)) (by rfl) (passes_call (takes_of rfl rfl rfl rfl) (fun _ _ _ _ h => h)) (an_cons (pe_vE (pv 1)) (an_cons (pe_vE (pv 0)) an_nil)))) (L2.pe_one (pe_dm (pe_cmpD (op_eqD' hr.units) oB_ne (by rfl) (pe_lenO (pv 1) (by rfl) M.n_len) pe_iC))))))))
theorem G_ties_are_right (M : Mg mg) {f : Addr} {fd : FuncData} (D : DefIs K mg "ties_are_right" st_ties_are_right ["people", "value"] f fd) (O_tie_is_right : Ok Pr w K mg base 4 "tie_is_right" ["people", "value"] m_tie_is_right) : FnG Pr w K mg base 5 f fd ["people", "value"] (spF K mg 2 m_ties_are_right) :=
  fn_D (P := []) D.fn sc_ties_are_right (by decide) (by decide) (fun cdv A outer s H E hgd hr =>
    let scN := sc_ties_are_right.nd
    (pss_consD (ps_ifD ((pw_orD (pt_noD (pt_E (pe_isi1 .tuple (pe_vE (pv 1)) (by rfl) M.n_isinstance (by rfl) M.n_tuple))) (pw_one (pt_noD (pt_E (pe_dm (pe_blt (call_allD rfl) dAll_ne (by rfl) M.n_all PyProof.Rows.boot_all (an_cons (pe_dm (pe_lcD rfl scN (pi_D rfl (pe_vE (pv 1))) (own := [("one", 2)]) (blkOk_by (by kernel_rfl)) (by decide) (fun _ _ _ _ _ => (pg_nameD (i := 2) scN rfl (by first | exact .inl rfl | exact .inr rfl))) (fun _ _ _ _ _ => pts_nilD) (fun _ _ _ _ _ => (pe_dm (pe_call0D O_tie_is_right hgd (hr.mono (by decide)) (by rfl) passL (an_cons (pe_vE (pv 0)) (an_cons (pe_vE (pv 2)) an_nil))))))) an_nil))))) (.inr rfl)))).pt (pss_oneD (ps_retD (pe_lf pe_bC))) pss_nilD)
  (pss_oneD (ps_retD (pe_blt (call_allD rfl) dAll_ne (by rfl) M.n_all PyProof.Rows.boot_all (an_cons (pe_dm (pe_lcD rfl scN (pi_zipD rfl (by rfl) M.n_zip (an_cons (pe_vE (pv 1)) (an_cons (pe_dm (pe_slD sl_D dSl_ne (pe_vE (pv 1)) (po_int pe_iC) po_no)) an_nil))) (own := [("one", 2), ("other", 3)]) (blkOk_by (by kernel_rfl)) (by decide) (fun _ _ _ _ _ => (pg_tupD rfl (pgs_consD (pg_nameD (i := 2) scN rfl (by first | exact .inl rfl | exact .inr rfl)) (pgs_consD (pg_nameD (i := 3) scN rfl (by first | exact .inl rfl | exact .inr rfl)) pgs_nilD)) (ws_lenS (ws_lenS ws_len0)))) (fun _ _ _ _ _ => pts_nilD) (fun _ _ _ _ _ => (pe_dm (pe_cmpD (op_ltD hr.units) oB_ne (by rfl) (pe_vE (pv 2)) (pe_vE (pv 3))))))) an_nil))))))
theorem G_flaw_of (M : Mg mg) {f : Addr} {fd : FuncData} (D : DefIs K mg "flaw_of" st_flaw_of ["value"] f fd) (O_people_are_right : Ok Pr w K mg base 4 "people_are_right" ["value"] m_people_are_right) (O_papers_are_right : Ok Pr w K mg base 5 "papers_are_right" ["people", "value"] m_papers_are_right) (O_ties_are_right : Ok Pr w K mg base 5 "ties_are_right" ["people", "value"] m_ties_are_right) : FnG Pr w K mg base 6 f fd ["value"] (spF K mg 1 m_flaw_of) :=
  fn_D (P := []) D.fn sc_flaw_of (by decide) (by decide) (fun cdv A outer s H E hgd hr =>
    let scN := sc_flaw_of.nd
    (pss_consD (ps_ifD ((pw_orD (pt_noD (pt_E (pe_isi1 .tuple (pe_vE (pv 0)) (by rfl) M.n_isinstance (by rfl) M.n_tuple))) (pw_orD (pt_cmpD (op_neD' hr.units) oB_ne (by rfl) (pe_lenO (pv 0) (by rfl) M.n_len) pe_iC) (pw_orD (pt_noD (pt_E (pe_isi1 .str (pe_dm (pe_ixO (pv 0) pe_iC (fun _ _ => rfl))) (by rfl) M.n_isinstance (by rfl) M.n_str))) (pw_one (pt_cmpD (op_neD' hr.units) oB_ne (by rfl) (pe_dm (pe_ixO (pv 0) pe_iC (fun _ _ => rfl))) pe_sC) (.inr rfl)))))).pt (pss_oneD (ps_retD (pe_lf pe_sC))) pss_nilD)
  (pss_consD (ps_ifD (pt_noD (pt_E (pe_dm (pe_call0D O_people_are_right hgd (hr.mono (by decide)) (by rfl) (passes_call (takes_of rfl rfl rfl rfl) (fun _ _ _ _ h => h)) (an_cons (pe_dm (pe_ixO (pv 0) pe_iC (fun _ _ => rfl))) an_nil))))) (pss_oneD (ps_retD (pe_lf pe_sC))) pss_nilD)
  (pss_consD (ps_ifD (pt_noD (pt_E (pe_dm (pe_call0D O_papers_are_right hgd (hr.mono (by decide)) (by rfl) (passes_call (takes_of rfl rfl rfl rfl) (fun _ _ _ _ h => h)) (an_cons (pe_dm (pe_blt call_lenD' dLen_ne (by rfl) M.n_len PySem.boot_len (an_cons (pe_dm (pe_ixO (pv 0) pe_iC (fun _ _ => rfl))) an_nil))) (an_cons (pe_dm (pe_ixO (pv 0) pe_iC (fun _ _ => rfl))) an_nil)))))) (pss_oneD (ps_retD (pe_lf pe_sC))) pss_nilD)
  (pss_oneD (ps_retD (pe_ifD (pt_E (pe_dm (pe_call0D O_ties_are_right hgd (hr.mono (by decide)) (by rfl) (passes_call (takes_of rfl rfl rfl rfl) (fun _ _ _ _ h => h)) (an_cons (pe_dm (pe_blt call_lenD' dLen_ne (by rfl) M.n_len PySem.boot_len (an_cons (pe_dm (pe_ixO (pv 0) pe_iC (fun _ _ => rfl))) an_nil))) (an_cons (pe_dm (pe_ixO (pv 0) pe_iC (fun _ _ => rfl))) an_nil))))) (pe_lf pe_nC) (pe_lf pe_sC))))))))
theorem G_is_call (M : Mg mg) {f : Addr} {fd : FuncData} (D : DefIs K mg "is_call" st_is_call ["value"] f fd) (O_flaw_of : Ok Pr w K mg base 6 "flaw_of" ["value"] m_flaw_of) : FnG Pr w K mg base 7 f fd ["value"] (spF K mg 1 m_is_call) :=
  fn_D (P := []) D.fn sc_is_call (by decide) (by decide) (fun cdv A outer s H E hgd hr =>
    let scN := sc_is_call.nd
    (pss_oneD (ps_retD (pe_cmpD (op_isND) oB_ne (by rfl) (pe_dm (pe_call0D O_flaw_of hgd (hr.mono (by decide)) (by rfl) (passes_call (takes_of rfl rfl rfl rfl) (fun _ _ _ _ h => h)) (an_cons (pe_vE (pv 0)) an_nil))) pe_nC))))
theorem G_flaw (M : Mg mg) {f : Addr} {fd : FuncData} (D : DefIs K mg "flaw" st_flaw ["value"] f fd) (O_flaw_of : Ok Pr w K mg base 6 "flaw_of" ["value"] m_flaw_of) : FnG Pr w K mg base 7 f fd ["value"] (spF K mg 1 m_flaw) :=
  fn_D (P := []) D.fn sc_flaw (by decide) (by decide) (fun cdv A outer s H E hgd hr =>
    let scN := sc_flaw.nd
    (pss_oneD (ps_retD (pe_call0D O_flaw_of hgd (hr.mono (by decide)) (by rfl) (passes_call (takes_of rfl rfl rfl rfl) (fun _ _ _ _ h => h)) (an_cons (pe_vE (pv 0)) an_nil)))))
theorem G__law_pot (M : Mg mg) {f : Addr} {fd : FuncData} (D : DefIs K mg "_law_pot" st__law_pot ["script", "k"] f fd)  : FnG Pr w K mg base 1 f fd ["script", "k"] (spF K mg 2 m__law_pot) :=
  fn_D (P := []) D.fn sc__law_pot (by decide) (by decide) (fun cdv A outer s H E hgd hr =>
    let scN := sc__law_pot.nd
    (pss_consD (ps_setD (i := 2) scN rfl (by first | exact .inl rfl | exact .inr rfl) (pe_ifD (pt_cmpD (op_ltD hr.units) oB_ne (by rfl) (pe_vE (pv 1)) (pe_lenO (pv 0) (by rfl) M.n_len)) (pe_blt call_absD dAbs_ne (by rfl) M.n_abs PyProof.Rows.boot_abs (an_cons (pe_scIx (pv 0) (pe_vE (pv 1)) (fun _ _ => rfl)) an_nil)) (pe_bin op_addD dAdd_ne (pe_dm (pe_bin op_addD dAdd_ne (pe_dm (pe_bin op_mulD dMul_ne pe_iC (pe_vE (pv 1)))) pe_iC)) (pe_dm (pe_bin op_modD dMod_ne (pe_dm (pe_blt call_absD dAbs_ne (by rfl) M.n_abs PyProof.Rows.boot_abs (an_cons (pe_dm (pe_blt (call_sumD rfl) dSum_ne (by rfl) M.n_sum PyProof.Rows.boot_sum (an_cons (pe_dm (pe_scSl (pv 0) po_no (po_int pe_iC))) an_nil))) an_nil))) pe_iC)))))
  (pss_oneD (ps_retD (pe_lstD (an_cons (pe_dm (pe_blt (call_maxD rfl) dMax_ne (by rfl) M.n_max PyProof.Rows.boot_max (an_cons pe_iC (an_cons (pe_dm (pe_bin op_subD dSub_ne (pe_vE (pv 2)) (pe_dm (pe_bin op_powD dPow_ne pe_iC pe_iC)))) an_nil)))) (an_cons (pe_dm (pe_bin op_addD dAdd_ne (pe_dm (pe_bin op_modD dMod_ne (pe_dm (pe_bltTy call_intD dInt_ne (by rfl) M.n_int PyProof.Rows.boot_int (an_cons (pe_dm (pe_bin op_addD dAdd_ne (pe_dm (pe_bin op_addD dAdd_ne (pe_dm (pe_bin op_mulD dMul_ne (pe_dm (pe_bin op_modD dMod_ne (pe_dm (pe_bltTy call_intD dInt_ne (by rfl) M.n_int PyProof.Rows.boot_int (an_cons (pe_vE (pv 2)) an_nil))) pe_iC)) pe_iC)) (pe_dm (pe_bin op_mulD dMul_ne pe_iC (pe_vE (pv 1)))))) pe_iC)) an_nil))) pe_iC)) pe_iC)) an_nil)))))))
theorem G__law_draw (M : Mg mg) {f : Addr} {fd : FuncData} (D : DefIs K mg "_law_draw" st__law_draw ["pot", "many"] f fd)  : FnG Pr w K mg base 1 f fd ["pot", "many"] (spF K mg 2 m__law_draw) :=
  fn_D (P := [0]) D.fn sc__law_draw (by decide) (by decide) (fun cdv A outer s H E hgd hr =>
    let scN := sc__law_draw.nd
    (pss_consD (ps_ifD (pt_cmpD (op_gtD hr.units) oB_ne (by rfl) (pe_dm (pe_ixO (pv 0) pe_iC (fun _ _ => rfl))) pe_iC) (pss_consD (ps_asgD (pe_dm (pe_blt call_dvmD dDvm_ne (by rfl) M.n_divmod PyProof.Rows.boot_divmod (an_cons (pe_dm (pe_ixO (pv 0) pe_iC (fun _ _ => rfl))) (an_cons (pe_vE (pv 1)) an_nil)))) (pgm_tup rfl (pgms_cons (pgm_ix (mg := mg) (E := EN) (pv 0) pe_iC) (pgms_cons (pgm_name (i := 2) scN rfl (by first | exact .inl rfl | exact .inr rfl)) pgms_nil)) (ws_lenS (ws_lenS ws_len0))))
  (pss_oneD (ps_retD (pe_vM (pv 2))))) pss_nilD)
  (pss_consD (ps_asgD (pe_dm (pe_bin op_modD dMod_ne (pe_dm (pe_bltTy call_intD dInt_ne (by rfl) M.n_int PyProof.Rows.boot_int (an_cons (pe_dm (pe_bin op_addD dAdd_ne (pe_dm (pe_bin op_mulD dMul_ne (pe_dm (pe_ixO (pv 0) pe_iC (fun _ _ => rfl))) pe_iC)) pe_iC)) an_nil))) pe_iC)) (pgm_ix (mg := mg) (E := EN) (pv 0) pe_iC))
  (pss_oneD (ps_retD (pe_bin op_modD dMod_ne (pe_dm (pe_bltTy call_intD dInt_ne (by rfl) M.n_int PyProof.Rows.boot_int (an_cons (pe_dm (pe_bin op_fdvD dFdv_ne (pe_dm (pe_bin op_modD dMod_ne (pe_dm (pe_bltTy call_intD dInt_ne (by rfl) M.n_int PyProof.Rows.boot_int (an_cons (pe_dm (pe_bin op_mulD dMul_ne (pe_dm (pe_ixO (pv 0) pe_iC (fun _ _ => rfl))) (pe_dm (pe_ixO (pv 0) pe_iC (fun _ _ => rfl))))) an_nil))) pe_iC)) pe_iC)) an_nil))) (pe_vE (pv 1))))))))
theorem G__law_pick (M : Mg mg) {f : Addr} {fd : FuncData} (D : DefIs K mg "_law_pick" st__law_pick ["pot", "some"] f fd) (O__law_draw : Ok Pr w K mg base 1 "_law_draw" ["pot", "many"] m__law_draw) : FnG Pr w K mg base 2 f fd ["pot", "some"] (spF K mg 2 m__law_pick) :=
  fn_D (P := [0]) D.fn sc__law_pick (by decide) (by decide) (fun cdv A outer s H E hgd hr =>
    let scN := sc__law_pick.nd
    (pss_oneD (ps_retD (pe_ixO (pv 1) (pe_dm (pe_callRD O__law_draw hgd (hr.mono (by decide)) (by rfl) (passes_call (takes_of rfl rfl rfl rfl) (fun _ _ _ _ h => h)) (pv 0) (an_cons (pe_lenO (pv 1) (by rfl) M.n_len) an_nil))) (fun _ _ => rfl)))))
theorem G__law_call (M : Mg mg) {f : Addr} {fd : FuncData} (D : DefIs K mg "_law_call" st__law_call ["pot", "most_people", "most_papers"] f fd) (O__law_draw : Ok Pr w K mg base 1 "_law_draw" ["pot", "many"] m__law_draw) (O__law_pick : Ok Pr w K mg base 2 "_law_pick" ["pot", "some"] m__law_pick) : FnG Pr w K mg base 3 f fd ["pot", "most_people", "most_papers"] (spF K mg 3 m__law_call) :=
  fn_D (P := [0]) D.fn sc__law_call (by decide) (by decide) (fun cdv A outer s H E hgd hr =>
    let scN := sc__law_call.nd
    (pss_consD (ps_parD (i := 3) (j := 4) rfl scN rfl rfl rfl rfl (pe_bin op_addD dAdd_ne pe_iC (pe_dm (pe_callRD O__law_draw hgd (hr.mono (by decide)) (by rfl) (passes_call (takes_of rfl rfl rfl rfl) (fun _ _ _ _ h => h)) (pv 0) (an_cons (pe_vE (pv 1)) an_nil)))) (pe_lstD an_nil) rfl)
  (pss_consD (ps_setD (i := 5) scN rfl (by first | exact .inl rfl | exact .inr rfl) (pe_lstD an_nil))
  (pss_consD (ps_forD (passes_of rfl) rfl (pi_rng1 (by rfl) M.n_range (an_cons (pe_vE (pv 3)) an_nil)) (pg_nameD (i := 6) scN rfl (by first | exact .inl rfl | exact .inr rfl))
  (pss_consD (ps_setD (i := 7) scN rfl (by first | exact .inl rfl | exact .inr rfl) (pe_callRD O__law_pick hgd (hr.mono (by decide)) (by rfl) (passes_call (takes_of rfl rfl rfl rfl) (fun _ _ _ _ h => h)) (pv 0) (an_cons (pe_dm (pe_lstD (an_cons pe_iC (an_cons pe_iC (an_cons pe_iC (an_cons (pe_dm (pe_callRD O__law_draw hgd (hr.mono (by decide)) (by rfl) (passes_call (takes_of rfl rfl rfl rfl) (fun _ _ _ _ h => h)) (pv 0) (an_cons pe_iC an_nil))) an_nil)))))) an_nil)))
  (pss_oneD (ps_exprD (pe_appD (pv 5) (an_cons (pe_tupD (an_cons (pe_dm (pe_callRD O__law_pick hgd (hr.mono (by decide)) (by rfl) (passes_call (takes_of rfl rfl rfl rfl) (fun _ _ _ _ h => h)) (pv 0) (an_cons (pe_dm (pe_lstD (an_cons pe_iC (an_cons pe_iC (an_cons pe_iC (an_cons (pe_dm (pe_callRD O__law_draw hgd (hr.mono (by decide)) (by rfl) (passes_call (takes_of rfl rfl rfl rfl) (fun _ _ _ _ h => h)) (pv 0) (an_cons (pe_dm (pe_bin op_addD dAdd_ne (pe_vE (pv 7)) pe_iC)) an_nil))) an_nil)))))) an_nil))) (an_cons (pe_vE (pv 7)) an_nil))) an_nil))))))
  (pss_consD (ps_forD (passes_of rfl) rfl (pi_rng1 (by rfl) M.n_range (an_cons (pe_dm (pe_bin op_addD dAdd_ne pe_iC (pe_dm (pe_callRD O__law_draw hgd (hr.mono (by decide)) (by rfl) (passes_call (takes_of rfl rfl rfl rfl) (fun _ _ _ _ h => h)) (pv 0) (an_cons (pe_vE (pv 2)) an_nil))))) an_nil)) (pg_nameD (i := 8) scN rfl (by first | exact .inl rfl | exact .inr rfl))
  (pss_consD (ps_setD (i := 9) scN rfl (by first | exact .inl rfl | exact .inr rfl) (pe_bltTy call_tupD dTup_ne (by rfl) M.n_tuple PyProof.Rows.boot_tuple (an_cons (pe_dm (pe_lcD rfl scN (pi_rng1 (by rfl) M.n_range (an_cons (pe_vE (pv 3)) an_nil)) (own := [("person", 6)]) (blkOk_by (by kernel_rfl)) (by decide) (fun _ _ _ _ _ => (pg_nameD (i := 6) scN rfl (by first | exact .inl rfl | exact .inr rfl))) (fun _ _ _ _ _ => (pts_oneD (pt_cmpD (op_eqD' hr.units) oB_ne (by rfl) (pe_dm (pe_callRD O__law_draw hgd (hr.mono (by decide)) (by rfl) passL (pv 0) (an_cons pe_iC an_nil))) pe_iC))) (fun _ _ _ _ _ => (pe_vE (pv 6))))) an_nil)))
  (pss_oneD (ps_exprD (pe_appD (pv 4) (an_cons (pe_tupD (an_cons (pe_dm (pe_callRD O__law_pick hgd (hr.mono (by decide)) (by rfl) (passes_call (takes_of rfl rfl rfl rfl) (fun _ _ _ _ h => h)) (pv 0) (an_cons (pe_dm (pe_lstD (an_cons pe_iC (an_cons pe_iC (an_cons pe_iC (an_cons (pe_dm (pe_bin op_addD dAdd_ne pe_iC (pe_dm (pe_callRD O__law_draw hgd (hr.mono (by decide)) (by rfl) (passes_call (takes_of rfl rfl rfl rfl) (fun _ _ _ _ h => h)) (pv 0) (an_cons pe_iC an_nil))))) an_nil)))))) an_nil))) (an_cons (pe_vE (pv 9)) an_nil))) an_nil))))))
  (pss_consD (ps_setD (i := 10) scN rfl (by first | exact .inl rfl | exact .inr rfl) (pe_lstD an_nil))
  (pss_consD (ps_forD (passes_of rfl) rfl (pi_rng1 (by rfl) M.n_range (an_cons (pe_vE (pv 3)) an_nil)) (pg_nameD (i := 11) scN rfl (by first | exact .inl rfl | exact .inr rfl))
  (pss_oneD (ps_exprD (pe_extD (pv 10) (an_cons (pe_dm (pe_lcD rfl scN (pi_rng2 (by rfl) M.n_range (an_cons (pe_dm (pe_bin op_addD dAdd_ne (pe_vE (pv 11)) pe_iC)) (an_cons (pe_vE (pv 3)) an_nil))) (own := [("other", 12)]) (blkOk_by (by kernel_rfl)) (by decide) (fun _ _ _ _ _ => (pg_nameD (i := 12) scN rfl (by first | exact .inl rfl | exact .inr rfl))) (fun _ _ _ _ _ => (pts_oneD (pt_cmpD (op_eqD' hr.units) oB_ne (by rfl) (pe_dm (pe_callRD O__law_draw hgd (hr.mono (by decide)) (by rfl) passL (pv 0) (an_cons pe_iC an_nil))) pe_iC))) (fun _ _ _ _ _ => (pe_tupD (an_cons (pe_vE (pv 11)) (an_cons (pe_vE (pv 12)) an_nil)))))) an_nil)))))
  (pss_oneD (ps_retD (pe_lf (pe_tupD (an_cons pe_sC (an_cons (pe_dm (pe_bltTy call_tupD dTup_ne (by rfl) M.n_tuple PyProof.Rows.boot_tuple (an_cons (pe_vE (pv 5)) an_nil))) (an_cons (pe_dm (pe_bltTy call_tupD dTup_ne (by rfl) M.n_tuple PyProof.Rows.boot_tuple (an_cons (pe_vE (pv 4)) an_nil))) (an_cons (pe_dm (pe_bltTy call_tupD dTup_ne (by rfl) M.n_tuple PyProof.Rows.boot_tuple (an_cons (pe_vE (pv 10)) an_nil))) an_nil)))))))))))))))
theorem G__law_is_count (M : Mg mg) {f : Addr} {fd : FuncData} (D : DefIs K mg "_law_is_count" st__law_is_count ["value", "least", "most"] f fd)  : FnG Pr w K mg base 1 f fd ["value", "least", "most"] (spF K mg 3 m__law_is_count) :=
  fn_D (P := []) D.fn sc__law_is_count (by decide) (by decide) (fun cdv A outer s H E hgd hr =>
    let scN := sc__law_is_count.nd
    (pss_oneD (ps_retD (pe_lf (pe_anD (pe_isi1 .int (pe_vE (pv 0)) (by rfl) M.n_isinstance (by rfl) M.n_int) (pe_anD (pe_noD (pe_isi1 .bool (pe_vE (pv 0)) (by rfl) M.n_isinstance (by rfl) M.n_bool)) (L2.pe_one (pe_chainD (op_leD hr.units) (op_leD hr.units) oB_ne oB_ne (pe_vE (pv 1)) (pe_vE (pv 0)) (pe_vE (pv 2))))))))))
theorem G__law_is_rising (M : Mg mg) {f : Addr} {fd : FuncData} (D : DefIs K mg "_law_is_rising" st__law_is_rising ["value", "many"] f fd) (O__law_is_count : Ok Pr w K mg base 1 "_law_is_count" ["value", "least", "most"] m__law_is_count) : FnG Pr w K mg base 2 f fd ["value", "many"] (spF K mg 2 m__law_is_rising) :=
  fn_D (P := []) D.fn sc__law_is_rising (by decide) (by decide) (fun cdv A outer s H E hgd hr =>
    let scN := sc__law_is_rising.nd
    (pss_consD (ps_ifD ((pw_orD (pt_noD (pt_E (pe_isi1 .tuple (pe_vE (pv 0)) (by rfl) M.n_isinstance (by rfl) M.n_tuple))) (pw_one (pt_cmpD (op_neD' hr.units) oB_ne (by rfl) (pe_dm (pe_lcD rfl scN (pi_D rfl (pe_vE (pv 0))) (own := [("one", 2)]) (blkOk_by (by kernel_rfl)) (by decide) (fun _ _ _ _ _ => (pg_nameD (i := 2) scN rfl (by first | exact .inl rfl | exact .inr rfl))) (fun _ _ _ _ _ => (pts_oneD (pt_noD (pt_E (pe_dm (pe_call0D O__law_is_count hgd (hr.mono (by decide)) (by rfl) passL (an_cons (pe_vE (pv 2)) (an_cons pe_iC (an_cons (pe_dm (pe_bin op_subD dSub_ne (pe_vE (pv 1)) pe_iC)) an_nil))))))))) (fun _ _ _ _ _ => (pe_vE (pv 2))))) (pe_dm (pe_lstD an_nil))) (.inr rfl)))).pt (pss_oneD (ps_retD (pe_lf pe_bC))) pss_nilD)
  (pss_oneD (ps_retD (pe_cmpD (op_eqD' hr.units) oB_ne (by rfl) (pe_dm (pe_lcD rfl scN (pi_zipD rfl (by rfl) M.n_zip (an_cons (pe_vE (pv 0)) (an_cons (pe_dm (pe_slD sl_D dSl_ne (pe_vE (pv 0)) (po_int pe_iC) po_no)) an_nil))) (own := [("one", 2), ("other", 3)]) (blkOk_by (by kernel_rfl)) (by decide) (fun _ _ _ _ _ => (pg_tupD rfl (pgs_consD (pg_nameD (i := 2) scN rfl (by first | exact .inl rfl | exact .inr rfl)) (pgs_consD (pg_nameD (i := 3) scN rfl (by first | exact .inl rfl | exact .inr rfl)) pgs_nilD)) (ws_lenS (ws_lenS ws_len0)))) (fun _ _ _ _ _ => (pts_oneD (pt_cmpD (op_geD hr.units) oB_ne (by rfl) (pe_vE (pv 2)) (pe_vE (pv 3))))) (fun _ _ _ _ _ => (pe_vE (pv 2))))) (pe_dm (pe_lstD an_nil)))))))
theorem G__law_is_person (M : Mg mg) {f : Addr} {fd : FuncData} (D : DefIs K mg "_law_is_person" st__law_is_person ["value"] f fd) (O__law_is_count : Ok Pr w K mg base 1 "_law_is_count" ["value", "least", "most"] m__law_is_count) : FnG Pr w K mg base 2 f fd ["value"] (spF K mg 1 m__law_is_person) :=
  fn_D (P := []) D.fn sc__law_is_person (by decide) (by decide) (fun cdv A outer s H E hgd hr =>
    let scN := sc__law_is_person.nd
    (pss_consD (ps_ifD ((pw_orD (pt_noD (pt_E (pe_isi1 .tuple (pe_vE (pv 0)) (by rfl) M.n_isinstance (by rfl) M.n_tuple))) (pw_orD (pt_cmpD (op_neD' hr.units) oB_ne (by rfl) (pe_lenO (pv 0) (by rfl) M.n_len) pe_iC) (pw_one (pt_cmpD (op_neD' hr.units) oB_ne (by rfl) (pe_dm (pe_lcD rfl scN (pi_D rfl (pe_vE (pv 0))) (own := [("one", 1)]) (blkOk_by (by kernel_rfl)) (by decide) (fun _ _ _ _ _ => (pg_nameD (i := 1) scN rfl (by first | exact .inl rfl | exact .inr rfl))) (fun _ _ _ _ _ => (pts_oneD (pt_noD (pt_E (pe_dm (pe_call0D O__law_is_count hgd (hr.mono (by decide)) (by rfl) passL (an_cons (pe_vE (pv 1)) (an_cons pe_iC (an_cons pe_iC an_nil))))))))) (fun _ _ _ _ _ => (pe_vE (pv 1))))) (pe_dm (pe_lstD an_nil))) (.inr rfl))))).pt (pss_oneD (ps_retD (pe_lf pe_bC))) pss_nilD)
  (pss_oneD (ps_retD (pe_cmpD (op_leD hr.units) oB_ne (by rfl) (pe_dm (pe_ixO (pv 0) pe_iC (fun _ _ => rfl))) (pe_dm (pe_ixO (pv 0) pe_iC (fun _ _ => rfl))))))))
theorem G__law_is_paper (M : Mg mg) {f : Addr} {fd : FuncData} (D : DefIs K mg "_law_is_paper" st__law_is_paper ["many", "value"] f fd) (O__law_is_rising : Ok Pr w K mg base 2 "_law_is_rising" ["value", "many"] m__law_is_rising) (O__law_is_count : Ok Pr w K mg base 1 "_law_is_count" ["value", "least", "most"] m__law_is_count) : FnG Pr w K mg base 3 f fd ["many", "value"] (spF K mg 2 m__law_is_paper) :=
  fn_D (P := []) D.fn sc__law_is_paper (by decide) (by decide) (fun cdv A outer s H E hgd hr =>
    let scN := sc__law_is_paper.nd
    (pss_oneD (ps_retD (pe_lf (pe_anD (pe_isi1 .tuple (pe_vE (pv 1)) (by rfl) M.n_isinstance (by rfl) M.n_tuple) (pe_anD (pe_dm (pe_cmpD (op_eqD' hr.units) oB_ne (by rfl) (pe_lenO (pv 1) (by rfl) M.n_len) pe_iC)) (pe_anD (pe_dm (pe_call0D O__law_is_count hgd (hr.mono (by decide)) (by rfl) (passes_call (takes_of rfl rfl rfl rfl) (fun _ _ _ _ h => h)) (an_cons (pe_dm (pe_ixO (pv 1) pe_iC (fun _ _ => rfl))) (an_cons pe_iC (an_cons pe_iC an_nil))))) (L2.pe_one (pe_dm (pe_call0D O__law_is_rising hgd (hr.mono (by decide)) (by rfl) (passes_call (takes_of rfl rfl rfl rfl) (fun _ _ _ _ h => h)) (an_cons (pe_dm (pe_ixO (pv 1) pe_iC (fun _ _ => rfl))) (an_cons (pe_vE (pv 0)) an_nil))))))))))))
theorem G__law_is_tie (M : Mg mg) {f : Addr} {fd : FuncData} (D : DefIs K mg "_law_is_tie" st__law_is_tie ["many", "value"] f fd) (O__law_is_rising : Ok Pr w K mg base 2 "_law_is_rising" ["value", "many"] m__law_is_rising) : FnG Pr w K mg base 3 f fd ["many", "value"] (spF K mg 2 m__law_is_tie) :=
  fn_D (P := []) D.fn sc__law_is_tie (by decide) (by decide) (fun cdv A outer s H E hgd hr =>
    let scN := sc__law_is_tie.nd
    (pss_oneD (ps_retD (pe_lf (pe_anD (pe_isi1 .tuple (pe_vE (pv 1)) (by rfl) M.n_isinstance (by rfl) M.n_tuple) (pe_anD (pe_dm (pe_cmpD (op_eqD' hr.units) oB_ne (by rfl) (pe_lenO (pv 1) (by rfl) M.n_len) pe_iC)) (L2.pe_one (pe_dm (pe_call0D O__law_is_rising hgd (hr.mono (by decide)) (by rfl) (passes_call (takes_of rfl rfl rfl rfl) (fun _ _ _ _ h => h)) (an_cons (pe_vE (pv 1)) (an_cons (pe_vE (pv 0)) an_nil)))))))))))
theorem G__law_flaw (M : Mg mg) {f : Addr} {fd : FuncData} (D : DefIs K mg "_law_flaw" st__law_flaw ["value"] f fd) (O__law_is_person : Ok Pr w K mg base 2 "_law_is_person" ["value"] m__law_is_person) (O__law_is_paper : Ok Pr w K mg base 3 "_law_is_paper" ["many", "value"] m__law_is_paper) (O__law_is_tie : Ok Pr w K mg base 3 "_law_is_tie" ["many", "value"] m__law_is_tie) : FnG Pr w K mg base 4 f fd ["value"] (spF K mg 1 m__law_flaw) :=
  fn_D (P := []) D.fn sc__law_flaw (by decide) (by decide) (fun cdv A outer s H E hgd hr =>
    let scN := sc__law_flaw.nd
    (pss_consD (ps_ifD ((pw_orD (pt_noD (pt_E (pe_isi1 .tuple (pe_vE (pv 0)) (by rfl) M.n_isinstance (by rfl) M.n_tuple))) (pw_orD (pt_cmpD (op_neD' hr.units) oB_ne (by rfl) (pe_lenO (pv 0) (by rfl) M.n_len) pe_iC) (pw_orD (pt_noD (pt_E (pe_isi1 .str (pe_dm (pe_ixO (pv 0) pe_iC (fun _ _ => rfl))) (by rfl) M.n_isinstance (by rfl) M.n_str))) (pw_one (pt_cmpD (op_neD' hr.units) oB_ne (by rfl) (pe_dm (pe_ixO (pv 0) pe_iC (fun _ _ => rfl))) pe_sC) (.inr rfl)))))).pt (pss_oneD (ps_retD (pe_lf pe_sC))) pss_nilD)
  (pss_consD (ps_ifD ((pw_orD (pt_noD (pt_E (pe_isi1 .tuple (pe_dm (pe_ixO (pv 0) pe_iC (fun _ _ => rfl))) (by rfl) M.n_isinstance (by rfl) M.n_tuple))) (pw_orD (pt_noD (pt_chainD (op_leD hr.units) (op_leD hr.units) oB_ne oB_ne pe_iC (pe_dm (pe_blt call_lenD' dLen_ne (by rfl) M.n_len PySem.boot_len (an_cons (pe_dm (pe_ixO (pv 0) pe_iC (fun _ _ => rfl))) an_nil))) pe_iC)) (pw_one (pt_cmpD (op_neD' hr.units) oB_ne (by rfl) (pe_dm (pe_lcD rfl scN (pi_D rfl (pe_dm (pe_ixO (pv 0) pe_iC (fun _ _ => rfl)))) (own := [("one", 2)]) (blkOk_by (by kernel_rfl)) (by decide) (fun _ _ _ _ _ => (pg_nameD (i := 2) scN rfl (by first | exact .inl rfl | exact .inr rfl))) (fun _ _ _ _ _ => (pts_oneD (pt_noD (pt_E (pe_dm (pe_call0D O__law_is_person hgd (hr.mono (by decide)) (by rfl) passL (an_cons (pe_vE (pv 2)) an_nil))))))) (fun _ _ _ _ _ => (pe_vE (pv 2))))) (pe_dm (pe_lstD an_nil))) (.inr rfl))))).pt (pss_oneD (ps_retD (pe_lf pe_sC))) pss_nilD)
  (pss_consD (ps_setD (i := 1) scN rfl (by first | exact .inl rfl | exact .inr rfl) (pe_blt call_lenD' dLen_ne (by rfl) M.n_len PySem.boot_len (an_cons (pe_dm (pe_ixO (pv 0) pe_iC (fun _ _ => rfl))) an_nil)))
  (pss_consD (ps_ifD ((pw_orD (pt_noD (pt_E (pe_isi1 .tuple (pe_dm (pe_ixO (pv 0) pe_iC (fun _ _ => rfl))) (by rfl) M.n_isinstance (by rfl) M.n_tuple))) (pw_orD (pt_noD (pt_chainD (op_leD hr.units) (op_leD hr.units) oB_ne oB_ne pe_iC (pe_dm (pe_blt call_lenD' dLen_ne (by rfl) M.n_len PySem.boot_len (an_cons (pe_dm (pe_ixO (pv 0) pe_iC (fun _ _ => rfl))) an_nil))) pe_iC)) (pw_one (pt_cmpD (op_neD' hr.units) oB_ne (by rfl) (pe_dm (pe_lcD rfl scN (pi_D rfl (pe_dm (pe_ixO (pv 0) pe_iC (fun _ _ => rfl)))) (own := [("one", 2)]) (blkOk_by (by kernel_rfl)) (by decide) (fun _ _ _ _ _ => (pg_nameD (i := 2) scN rfl (by first | exact .inl rfl | exact .inr rfl))) (fun _ _ _ _ _ => (pts_oneD (pt_noD (pt_E (pe_dm (pe_call0D O__law_is_paper hgd (hr.mono (by decide)) (by rfl) passL (an_cons (pe_vE (pv 1)) (an_cons (pe_vE (pv 2)) an_nil)))))))) (fun _ _ _ _ _ => (pe_vE (pv 2))))) (pe_dm (pe_lstD an_nil))) (.inr rfl))))).pt (pss_oneD (ps_retD (pe_lf pe_sC))) pss_nilD)
  (pss_consD (ps_ifD ((pw_orD (pt_noD (pt_E (pe_isi1 .tuple (pe_dm (pe_ixO (pv 0) pe_iC (fun _ _ => rfl))) (by rfl) M.n_isinstance (by rfl) M.n_tuple))) (pw_one (pt_cmpD (op_neD' hr.units) oB_ne (by rfl) (pe_dm (pe_lcD rfl scN (pi_D rfl (pe_dm (pe_ixO (pv 0) pe_iC (fun _ _ => rfl)))) (own := [("one", 2)]) (blkOk_by (by kernel_rfl)) (by decide) (fun _ _ _ _ _ => (pg_nameD (i := 2) scN rfl (by first | exact .inl rfl | exact .inr rfl))) (fun _ _ _ _ _ => (pts_oneD (pt_noD (pt_E (pe_dm (pe_call0D O__law_is_tie hgd (hr.mono (by decide)) (by rfl) passL (an_cons (pe_vE (pv 1)) (an_cons (pe_vE (pv 2)) an_nil)))))))) (fun _ _ _ _ _ => (pe_vE (pv 2))))) (pe_dm (pe_lstD an_nil))) (.inr rfl)))).pt (pss_oneD (ps_retD (pe_lf pe_sC))) pss_nilD)
  (pss_oneD (ps_retD (pe_ifD (pt_cmpD (op_neD' hr.units) oB_ne (by rfl) (pe_dm (pe_lcD rfl scN (pi_zipD rfl (by rfl) M.n_zip (an_cons (pe_dm (pe_ixO (pv 0) pe_iC (fun _ _ => rfl))) (an_cons (pe_dm (pe_slD sl_D dSl_ne (pe_dm (pe_ixO (pv 0) pe_iC (fun _ _ => rfl))) (po_int pe_iC) po_no)) an_nil))) (own := [("one", 2), ("other", 3)]) (blkOk_by (by kernel_rfl)) (by decide) (fun _ _ _ _ _ => (pg_tupD rfl (pgs_consD (pg_nameD (i := 2) scN rfl (by first | exact .inl rfl | exact .inr rfl)) (pgs_consD (pg_nameD (i := 3) scN rfl (by first | exact .inl rfl | exact .inr rfl)) pgs_nilD)) (ws_lenS (ws_lenS ws_len0)))) (fun _ _ _ _ _ => (pts_oneD (pt_cmpD (op_geD hr.units) oB_ne (by rfl) (pe_vE (pv 2)) (pe_vE (pv 3))))) (fun _ _ _ _ _ => (pe_vE (pv 2))))) (pe_dm (pe_lstD an_nil))) (pe_lf pe_sC) (pe_lf pe_nC))))))))))
theorem G__law_bent (M : Mg mg) {f : Addr} {fd : FuncData} (D : DefIs K mg "_law_bent" st__law_bent ["pot", "value"] f fd) (O__law_pick : Ok Pr w K mg base 2 "_law_pick" ["pot", "some"] m__law_pick) (O__law_draw : Ok Pr w K mg base 1 "_law_draw" ["pot", "many"] m__law_draw) : ∀ n : Nat, FnG Pr w K mg base (2 + n) f fd ["pot", "value"] (spF K mg 2 (m__law_bent n))
  | 0 => FnG.none
  | n + 1 => by
    have O__law_bent : Ok Pr w K mg base (2 + n) "_law_bent" ["pot", "value"] (m__law_bent n) := D.ok (G__law_bent M D O__law_pick O__law_draw n)
    exact fn_D (P := [0]) D.fn sc__law_bent (by decide) (by decide) (fun cdv A outer s H E hgd hr => 
      let scN := sc__law_bent.nd
      (pss_consD (ps_ifD (pt_E (pe_isi1 .str (pe_vE (pv 1)) (by rfl) M.n_isinstance (by rfl) M.n_str)) (pss_oneD (ps_retD (pe_callRD O__law_pick hgd (hr.mono (Nat.le_trans (by decide) (Nat.le_add_right 2 n))) (by rfl) (passes_call (takes_of rfl rfl rfl rfl) (fun _ _ _ _ h => h)) (pv 0) (an_cons (pe_dm (pe_lstD (an_cons pe_sC (an_cons pe_sC (an_cons pe_nC (an_cons pe_sC an_nil)))))) an_nil)))) pss_nilD)
  (pss_consD (ps_ifD (pt_noD (pt_E (pe_isi2 .list .tuple (pe_vE (pv 1)) (by rfl) M.n_isinstance (by rfl) M.n_list (by rfl) M.n_tuple))) (pss_oneD (ps_retD (pe_callRD O__law_pick hgd (hr.mono (Nat.le_trans (by decide) (Nat.le_add_right 2 n))) (by rfl) (passes_call (takes_of rfl rfl rfl rfl) (fun _ _ _ _ h => h)) (pv 0) (an_cons (pe_dm (pe_bin op_addD dAdd_ne (pe_dm (pe_lstD (an_cons pe_nC (an_cons pe_iC (an_cons pe_iC (an_cons pe_iC (an_cons pe_iC (an_cons pe_iC (an_cons pe_iC (an_cons pe_bC (an_cons pe_bC (an_cons (pe_dm (pe_bltTy (call_strD hgd hr.units) dStr_ne (by rfl) M.n_str PyProof.Rows.boot_str (an_cons (pe_vE (pv 1)) an_nil))) an_nil)))))))))))) (pe_dm (pe_ifD (pt_E (pe_isi1 .int (pe_vE (pv 1)) (by rfl) M.n_isinstance (by rfl) M.n_int)) (pe_lstD (an_cons (pe_dm (pe_bin op_addD dAdd_ne (pe_vE (pv 1)) pe_iC)) (an_cons (pe_dm (pe_bin op_subD dSub_ne (pe_vE (pv 1)) pe_iC)) an_nil))) (pe_lstD an_nil))))) an_nil)))) pss_nilD)
  (pss_consD (ps_ifD ((pw_orD (pt_cmpD (op_eqD' hr.units) oB_ne (by rfl) (pe_lenO (pv 1) (by rfl) M.n_len) pe_iC) (pw_one (pt_cmpD (op_eqD' hr.units) oB_ne (by rfl) (pe_dm (pe_callRD O__law_draw hgd (hr.mono (Nat.le_trans (by decide) (Nat.le_add_right 2 n))) (by rfl) (passes_call (takes_of rfl rfl rfl rfl) (fun _ _ _ _ h => h)) (pv 0) (an_cons pe_iC an_nil))) pe_iC) (.inr rfl)))).pt (pss_consD (ps_setD (i := 2) scN rfl (by first | exact .inl rfl | exact .inr rfl) (pe_ifD (pt_E (pe_isi1 .tuple (pe_vE (pv 1)) (by rfl) M.n_isinstance (by rfl) M.n_tuple)) (pe_bltTy call_listD dList_ne (by rfl) M.n_list PyProof.Rows.boot_list (an_cons (pe_vE (pv 1)) an_nil)) (pe_bltTy call_tupD dTup_ne (by rfl) M.n_tuple PyProof.Rows.boot_tuple (an_cons (pe_vE (pv 1)) an_nil))))
  (pss_oneD (ps_retD (pe_callRD O__law_pick hgd (hr.mono (Nat.le_trans (by decide) (Nat.le_add_right 2 n))) (by rfl) (passes_call (takes_of rfl rfl rfl rfl) (fun _ _ _ _ h => h)) (pv 0) (an_cons (pe_dm (pe_lstD (an_cons (pe_dm (pe_slD sl_D dSl_ne (pe_vE (pv 1)) po_no (po_int (pe_dm (pe_unD un_negD dNeg_ne pe_iC))))) (an_cons (pe_dm (pe_bin op_addD dAdd_ne (pe_vE (pv 1)) (pe_dm (pe_slD sl_D dSl_ne (pe_vE (pv 1)) (po_int (pe_dm (pe_unD un_negD dNeg_ne pe_iC))) po_no)))) (an_cons (pe_vE (pv 2)) (an_cons pe_nC (an_cons (pe_dm (pe_revD (pe_vE (pv 1)))) (an_cons (pe_dm (pe_bin op_mulD dMul_ne (pe_vE (pv 1)) pe_iC)) (an_cons (pe_dm pe_newK) an_nil))))))))) an_nil))))) pss_nilD)
  (pss_consD (ps_setD (i := 3) scN rfl (by first | exact .inl rfl | exact .inr rfl) (pe_callRD O__law_draw hgd (hr.mono (Nat.le_trans (by decide) (Nat.le_add_right 2 n))) (by rfl) (passes_call (takes_of rfl rfl rfl rfl) (fun _ _ _ _ h => h)) (pv 0) (an_cons (pe_lenO (pv 1) (by rfl) M.n_len) an_nil)))
  (pss_consD (ps_setD (i := 4) scN rfl (by first | exact .inl rfl | exact .inr rfl) (pe_callRD O__law_bent hgd (hr.mono (Nat.le_refl _)) (by rfl) (passes_call (takes_of rfl rfl rfl rfl) (fun _ _ _ _ h => h)) (pv 0) (an_cons (pe_dm (pe_ixO (pv 1) (pe_vE (pv 3)) (fun _ _ => rfl))) an_nil)))
  (pss_oneD (ps_retD (pe_bin op_addD dAdd_ne (pe_dm (pe_bin op_addD dAdd_ne (pe_dm (pe_slD sl_D dSl_ne (pe_vE (pv 1)) po_no (po_int (pe_vE (pv 3))))) (pe_dm (pe_ifD (pt_E (pe_isi1 .tuple (pe_vE (pv 1)) (by rfl) M.n_isinstance (by rfl) M.n_tuple)) (pe_lf (pe_tupD (an_cons (pe_vE (pv 4)) an_nil))) (pe_lstD (an_cons (pe_vE (pv 4)) an_nil)))))) (pe_dm (pe_slD sl_D dSl_ne (pe_vE (pv 1)) (po_int (pe_dm (pe_bin op_addD dAdd_ne (pe_vE (pv 3)) pe_iC))) po_no)))))))))))
theorem G__law_right (M : Mg mg) {f : Addr} {fd : FuncData} (D : DefIs K mg "_law_right" st__law_right ["pot"] f fd) (O__law_call : Ok Pr w K mg base 3 "_law_call" ["pot", "most_people", "most_papers"] m__law_call) (O__law_bent : Ok Pr w K mg base 8 "_law_bent" ["pot", "value"] (m__law_bent 6)) (O__law_flaw : Ok Pr w K mg base 4 "_law_flaw" ["value"] m__law_flaw) (O_is_call : Ok Pr w K mg base 7 "is_call" ["value"] m_is_call) (KO_is_call_0 : OkK Pr w K mg base 7 "is_call" ["value"] ["value"] 1 [0] m_is_call) (O_flaw : Ok Pr w K mg base 7 "flaw" ["value"] m_flaw) (KO_flaw_0 : OkK Pr w K mg base 7 "flaw" ["value"] ["value"] 1 [0] m_flaw) : FnG Pr w K mg base 9 f fd ["pot"] (spF K mg 1 m__law_right) :=
  fn_D (P := [0]) D.fn sc__law_right (by decide) (by decide) (fun cdv A outer s H E hgd hr =>
    let scN := sc__law_right.nd
    (pss_consD (ps_setD (i := 1) scN rfl (by first | exact .inl rfl | exact .inr rfl) (pe_callRD O__law_call hgd (hr.mono (by decide)) (by rfl) (passes_call (takes_of rfl rfl rfl rfl) (fun _ _ _ _ h => h)) (pv 0) (an_cons pe_iC (an_cons pe_iC an_nil))))
  (pss_consD (ps_setD (i := 2) scN rfl (by first | exact .inl rfl | exact .inr rfl) (pe_lstD (an_cons (pe_vE (pv 1)) (an_cons pe_nC (an_cons pe_iC (an_cons pe_sC (an_cons (pe_tupD an_nil) (an_cons (pe_dm (pe_lstD an_nil)) (an_cons (pe_dm pe_newK) (an_cons (pe_dm (pe_bltTy call_listD dList_ne (by rfl) M.n_list PyProof.Rows.boot_list (an_cons (pe_vE (pv 1)) an_nil))) (an_cons (pe_dm (pe_slD sl_D dSl_ne (pe_vE (pv 1)) po_no (po_int pe_iC))) (an_cons (pe_tupD (an_cons pe_sC (an_cons (pe_tupD an_nil) (an_cons (pe_tupD an_nil) (an_cons (pe_tupD an_nil) an_nil))))) (an_cons (pe_tupD (an_cons pe_sC (an_cons (pe_tupD (an_cons (pe_tupD (an_cons pe_iC (an_cons pe_iC an_nil))) an_nil)) (an_cons (pe_tupD (an_cons (pe_tupD (an_cons pe_iC (an_cons (pe_tupD an_nil) an_nil))) an_nil)) (an_cons (pe_tupD an_nil) an_nil))))) an_nil)))))))))))))
  (pss_consD (ps_forD (passes_of rfl) rfl (pi_rng1 (by rfl) M.n_range (an_cons pe_iC an_nil)) (pg_nameD (i := 3) scN rfl (by first | exact .inl rfl | exact .inr rfl))
  (pss_consD (ps_setD (i := 4) scN rfl (by first | exact .inl rfl | exact .inr rfl) (pe_callRD O__law_bent hgd (hr.mono (by decide)) (by rfl) (passes_call (takes_of rfl rfl rfl rfl) (fun _ _ _ _ h => h)) (pv 0) (an_cons (pe_vE (pv 1)) an_nil)))
  (pss_oneD (ps_exprD (pe_extD (pv 2) (an_cons (pe_dm (pe_lstD (an_cons (pe_vE (pv 4)) (an_cons (pe_dm (pe_callRD O__law_bent hgd (hr.mono (by decide)) (by rfl) (passes_call (takes_of rfl rfl rfl rfl) (fun _ _ _ _ h => h)) (pv 0) (an_cons (pe_vE (pv 4)) an_nil))) an_nil)))) an_nil))))))
  (pss_consD (ps_forD (passes_of rfl) rfl (pi_D rfl (pe_vE (pv 2))) (pg_nameD (i := 5) scN rfl (by first | exact .inl rfl | exact .inr rfl))
  (pss_consD (ps_parD (i := 6) (j := 7) rfl scN rfl rfl rfl rfl (pe_blt (call_reprD hgd hr.units) dRepr_ne (by rfl) M.n_repr PyProof.Rows.boot_repr (an_cons (pe_vE (pv 5)) an_nil)) (pe_call0D O__law_flaw hgd (hr.mono (by decide)) (by rfl) (passes_call (takes_of rfl rfl rfl rfl) (fun _ _ _ _ h => h)) (an_cons (pe_vE (pv 5)) an_nil)) rfl)
  (pss_oneD (ps_ifD ((pw_orD (pt_cmpD (op_neD' hr.units) oB_ne (by rfl) (pe_dm (pe_blt (call_reprD hgd hr.units) dRepr_ne (by rfl) M.n_repr PyProof.Rows.boot_repr (an_cons (pe_dm (pe_lstD (an_cons (pe_dm (pe_call0D O_flaw hgd (hr.mono (by decide)) (by rfl) (passes_call (takes_of rfl rfl rfl rfl) (fun _ _ _ _ h => h)) (an_cons (pe_vE (pv 5)) an_nil))) (an_cons (pe_dm (pe_callKD KO_flaw_0 hgd (hr.mono (by decide)) (by rfl) (passes_call (takes_of rfl rfl rfl rfl) (fun _ _ _ _ h => h)) (kn_cons (pe_vE (pv 5)) kn_nil))) (an_cons (pe_dm (pe_call0D O_is_call hgd (hr.mono (by decide)) (by rfl) (passes_call (takes_of rfl rfl rfl rfl) (fun _ _ _ _ h => h)) (an_cons (pe_vE (pv 5)) an_nil))) (an_cons (pe_dm (pe_callKD KO_is_call_0 hgd (hr.mono (by decide)) (by rfl) (passes_call (takes_of rfl rfl rfl rfl) (fun _ _ _ _ h => h)) (kn_cons (pe_vE (pv 5)) kn_nil))) an_nil)))))) an_nil))) (pe_dm (pe_blt (call_reprD hgd hr.units) dRepr_ne (by rfl) M.n_repr PyProof.Rows.boot_repr (an_cons (pe_dm (pe_lstD (an_cons (pe_vE (pv 7)) (an_cons (pe_vE (pv 7)) (an_cons (pe_dm (pe_cmpD (op_isND) oB_ne (by rfl) (pe_vE (pv 7)) pe_nC)) (an_cons (pe_dm (pe_cmpD (op_isND) oB_ne (by rfl) (pe_vE (pv 7)) pe_nC)) an_nil)))))) an_nil)))) (pw_one (pt_cmpD (op_neD' hr.units) oB_ne (by rfl) (pe_dm (pe_blt (call_reprD hgd hr.units) dRepr_ne (by rfl) M.n_repr PyProof.Rows.boot_repr (an_cons (pe_vE (pv 5)) an_nil))) (pe_vE (pv 6))) (.inr rfl)))).pt (pss_oneD (ps_retD (pe_lf pe_bC))) pss_nilD))))
  (pss_oneD (ps_retD (pe_lf pe_bC))))))))
theorem G_law (M : Mg mg) {f : Addr} {fd : FuncData} (D : DefIs K mg "law" st_law ["script"] f fd) (O__law_right : Ok Pr w K mg base 9 "_law_right" ["pot"] m__law_right) (O__law_pot : Ok Pr w K mg base 1 "_law_pot" ["script", "k"] m__law_pot) : FnG Pr w K mg base 10 f fd ["script"] (spF K mg 1 m_law) :=
  fn_D (P := []) D.fn sc_law (by decide) (by decide) (fun cdv A outer s H E hgd hr =>
    let scN := sc_law.nd
    (pss_oneD (ps_retD (pe_blt (call_allD rfl) dAll_ne (by rfl) M.n_all PyProof.Rows.boot_all (an_cons (pe_dm (pe_lcD rfl scN (pi_rng1 (by rfl) M.n_range (an_cons (pe_dm (pe_blt (call_maxD rfl) dMax_ne (by rfl) M.n_max PyProof.Rows.boot_max (an_cons pe_iC (an_cons (pe_dm (pe_blt (call_minD rfl) dMin_ne (by rfl) M.n_min PyProof.Rows.boot_min (an_cons pe_iC (an_cons (pe_lenO (pv 0) (by rfl) M.n_len) an_nil)))) an_nil)))) an_nil)) (own := [("k", 1)]) (blkOk_by (by kernel_rfl)) (by decide) (fun _ _ _ _ _ => (pg_nameD (i := 1) scN rfl (by first | exact .inl rfl | exact .inr rfl))) (fun _ _ _ _ _ => pts_nilD) (fun _ _ _ _ _ => (pe_dm (pe_callTD O__law_right hgd (hr.mono (by decide)) (by rfl) passL (pe_callSD O__law_pot hgd (hr.mono (by decide)) (by rfl) passL (pv 0) (an_cons (pe_vE (pv 1)) an_nil)) an_nil))))) an_nil)))))
end
/-! ### all the defs, from what the top has written -/
theorem all_mk {Pr : Program} {w : World} {K : PySem.W.Frag} {h : Heap} {mg : Str → Option Value} {fa : Addr} (X : K.In h) (G : h.Ns mainGlobals mg) (hfa : mg "law" = some (.ref fa))
    {f0 : Addr} {od0 an0 : Option Addr} {sl0 : Array (Option Value)} {oc0 kV0 dc0 pm0 cd0 ct0 : Value} (a0 : PySem.W.nsIn K mainGlobals "is_integer" = some (some (.ref f0))) (l0 : K.lookup f0 = some ⟨oc0, od0, .func (PySem.W.fnOf "is_integer" "is_integer" (defArgs st_is_integer) (defBody st_is_integer) (defScope st_is_integer) .none kV0 dc0 pm0 an0 cd0 ct0), sl0⟩) (c0 : PySem.W.codeIn K cd0 "is_integer" = true) (k0 : PySem.W.keepIn K (.ref f0) = true)
    {f1 : Addr} {od1 an1 : Option Addr} {sl1 : Array (Option Value)} {oc1 kV1 dc1 pm1 cd1 ct1 : Value} (a1 : PySem.W.nsIn K mainGlobals "is_count" = some (some (.ref f1))) (l1 : K.lookup f1 = some ⟨oc1, od1, .func (PySem.W.fnOf "is_count" "is_count" (defArgs st_is_count) (defBody st_is_count) (defScope st_is_count) .none kV1 dc1 pm1 an1 cd1 ct1), sl1⟩) (c1 : PySem.W.codeIn K cd1 "is_count" = true) (k1 : PySem.W.keepIn K (.ref f1) = true)
    {f2 : Addr} {od2 an2 : Option Addr} {sl2 : Array (Option Value)} {oc2 kV2 dc2 pm2 cd2 ct2 : Value} (a2 : PySem.W.nsIn K mainGlobals "is_position" = some (some (.ref f2))) (l2 : K.lookup f2 = some ⟨oc2, od2, .func (PySem.W.fnOf "is_position" "is_position" (defArgs st_is_position) (defBody st_is_position) (defScope st_is_position) .none kV2 dc2 pm2 an2 cd2 ct2), sl2⟩) (c2 : PySem.W.codeIn K cd2 "is_position" = true) (k2 : PySem.W.keepIn K (.ref f2) = true)
    {f3 : Addr} {od3 an3 : Option Addr} {sl3 : Array (Option Value)} {oc3 kV3 dc3 pm3 cd3 ct3 : Value} (a3 : PySem.W.nsIn K mainGlobals "is_rising_tuple" = some (some (.ref f3))) (l3 : K.lookup f3 = some ⟨oc3, od3, .func (PySem.W.fnOf "is_rising_tuple" "is_rising_tuple" (defArgs st_is_rising_tuple) (defBody st_is_rising_tuple) (defScope st_is_rising_tuple) .none kV3 dc3 pm3 an3 cd3 ct3), sl3⟩) (c3 : PySem.W.codeIn K cd3 "is_rising_tuple" = true) (k3 : PySem.W.keepIn K (.ref f3) = true)
    {f4 : Addr} {od4 an4 : Option Addr} {sl4 : Array (Option Value)} {oc4 kV4 dc4 pm4 cd4 ct4 : Value} (a4 : PySem.W.nsIn K mainGlobals "person_is_right" = some (some (.ref f4))) (l4 : K.lookup f4 = some ⟨oc4, od4, .func (PySem.W.fnOf "person_is_right" "person_is_right" (defArgs st_person_is_right) (defBody st_person_is_right) (defScope st_person_is_right) .none kV4 dc4 pm4 an4 cd4 ct4), sl4⟩) (c4 : PySem.W.codeIn K cd4 "person_is_right" = true) (k4 : PySem.W.keepIn K (.ref f4) = true)
    {f5 : Addr} {od5 an5 : Option Addr} {sl5 : Array (Option Value)} {oc5 kV5 dc5 pm5 cd5 ct5 : Value} (a5 : PySem.W.nsIn K mainGlobals "people_are_right" = some (some (.ref f5))) (l5 : K.lookup f5 = some ⟨oc5, od5, .func (PySem.W.fnOf "people_are_right" "people_are_right" (defArgs st_people_are_right) (defBody st_people_are_right) (defScope st_people_are_right) .none kV5 dc5 pm5 an5 cd5 ct5), sl5⟩) (c5 : PySem.W.codeIn K cd5 "people_are_right" = true) (k5 : PySem.W.keepIn K (.ref f5) = true)
    {f6 : Addr} {od6 an6 : Option Addr} {sl6 : Array (Option Value)} {oc6 kV6 dc6 pm6 cd6 ct6 : Value} (a6 : PySem.W.nsIn K mainGlobals "paper_is_right" = some (some (.ref f6))) (l6 : K.lookup f6 = some ⟨oc6, od6, .func (PySem.W.fnOf "paper_is_right" "paper_is_right" (defArgs st_paper_is_right) (defBody st_paper_is_right) (defScope st_paper_is_right) .none kV6 dc6 pm6 an6 cd6 ct6), sl6⟩) (c6 : PySem.W.codeIn K cd6 "paper_is_right" = true) (k6 : PySem.W.keepIn K (.ref f6) = true)
    {f7 : Addr} {od7 an7 : Option Addr} {sl7 : Array (Option Value)} {oc7 kV7 dc7 pm7 cd7 ct7 : Value} (a7 : PySem.W.nsIn K mainGlobals "papers_are_right" = some (some (.ref f7))) (l7 : K.lookup f7 = some ⟨oc7, od7, .func (PySem.W.fnOf "papers_are_right" "papers_are_right" (defArgs st_papers_are_right) (defBody st_papers_are_right) (defScope st_papers_are_right) .none kV7 dc7 pm7 an7 cd7 ct7), sl7⟩) (c7 : PySem.W.codeIn K cd7 "papers_are_right" = true) (k7 : PySem.W.keepIn K (.ref f7) = true)
    {f8 : Addr} {od8 an8 : Option Addr} {sl8 : Array (Option Value)} {oc8 kV8 dc8 pm8 cd8 ct8 : Value} (a8 : PySem.W.nsIn K mainGlobals "tie_is_right" = some (some (.ref f8))) (l8 : K.lookup f8 = some ⟨oc8, od8, .func (PySem.W.fnOf "tie_is_right" "tie_is_right" (defArgs st_tie_is_right) (defBody st_tie_is_right) (defScope st_tie_is_right) .none kV8 dc8 pm8 an8 cd8 ct8), sl8⟩) (c8 : PySem.W.codeIn K cd8 "tie_is_right" = true) (k8 : PySem.W.keepIn K (.ref f8) = true)
    {f9 : Addr} {od9 an9 : Option Addr} {sl9 : Array (Option Value)} {oc9 kV9 dc9 pm9 cd9 ct9 : Value} (a9 : PySem.W.nsIn K mainGlobals "ties_are_right" = some (some (.ref f9))) (l9 : K.lookup f9 = some ⟨oc9, od9, .func (PySem.W.fnOf "ties_are_right" "ties_are_right" (defArgs st_ties_are_right) (defBody st_ties_are_right) (defScope st_ties_are_right) .none kV9 dc9 pm9 an9 cd9 ct9), sl9⟩) (c9 : PySem.W.codeIn K cd9 "ties_are_right" = true) (k9 : PySem.W.keepIn K (.ref f9) = true)
    {f10 : Addr} {od10 an10 : Option Addr} {sl10 : Array (Option Value)} {oc10 kV10 dc10 pm10 cd10 ct10 : Value} (a10 : PySem.W.nsIn K mainGlobals "flaw_of" = some (some (.ref f10))) (l10 : K.lookup f10 = some ⟨oc10, od10, .func (PySem.W.fnOf "flaw_of" "flaw_of" (defArgs st_flaw_of) (defBody st_flaw_of) (defScope st_flaw_of) .none kV10 dc10 pm10 an10 cd10 ct10), sl10⟩) (c10 : PySem.W.codeIn K cd10 "flaw_of" = true) (k10 : PySem.W.keepIn K (.ref f10) = true)
    {f11 : Addr} {od11 an11 : Option Addr} {sl11 : Array (Option Value)} {oc11 kV11 dc11 pm11 cd11 ct11 : Value} (a11 : PySem.W.nsIn K mainGlobals "is_call" = some (some (.ref f11))) (l11 : K.lookup f11 = some ⟨oc11, od11, .func (PySem.W.fnOf "is_call" "is_call" (defArgs st_is_call) (defBody st_is_call) (defScope st_is_call) .none kV11 dc11 pm11 an11 cd11 ct11), sl11⟩) (c11 : PySem.W.codeIn K cd11 "is_call" = true) (k11 : PySem.W.keepIn K (.ref f11) = true)
    {f12 : Addr} {od12 an12 : Option Addr} {sl12 : Array (Option Value)} {oc12 kV12 dc12 pm12 cd12 ct12 : Value} (a12 : PySem.W.nsIn K mainGlobals "flaw" = some (some (.ref f12))) (l12 : K.lookup f12 = some ⟨oc12, od12, .func (PySem.W.fnOf "flaw" "flaw" (defArgs st_flaw) (defBody st_flaw) (defScope st_flaw) .none kV12 dc12 pm12 an12 cd12 ct12), sl12⟩) (c12 : PySem.W.codeIn K cd12 "flaw" = true) (k12 : PySem.W.keepIn K (.ref f12) = true)
    {f13 : Addr} {od13 an13 : Option Addr} {sl13 : Array (Option Value)} {oc13 kV13 dc13 pm13 cd13 ct13 : Value} (a13 : PySem.W.nsIn K mainGlobals "_law_pot" = some (some (.ref f13))) (l13 : K.lookup f13 = some ⟨oc13, od13, .func (PySem.W.fnOf "_law_pot" "_law_pot" (defArgs st__law_pot) (defBody st__law_pot) (defScope st__law_pot) .none kV13 dc13 pm13 an13 cd13 ct13), sl13⟩) (c13 : PySem.W.codeIn K cd13 "_law_pot" = true) (k13 : PySem.W.keepIn K (.ref f13) = true)
    {f14 : Addr} {od14 an14 : Option Addr} {sl14 : Array (Option Value)} {oc14 kV14 dc14 pm14 cd14 ct14 : Value} (a14 : PySem.W.nsIn K mainGlobals "_law_draw" = some (some (.ref f14))) (l14 : K.lookup f14 = some ⟨oc14, od14, .func (PySem.W.fnOf "_law_draw" "_law_draw" (defArgs st__law_draw) (defBody st__law_draw) (defScope st__law_draw) .none kV14 dc14 pm14 an14 cd14 ct14), sl14⟩) (c14 : PySem.W.codeIn K cd14 "_law_draw" = true) (k14 : PySem.W.keepIn K (.ref f14) = true)
    {f15 : Addr} {od15 an15 : Option Addr} {sl15 : Array (Option Value)} {oc15 kV15 dc15 pm15 cd15 ct15 : Value} (a15 : PySem.W.nsIn K mainGlobals "_law_pick" = some (some (.ref f15))) (l15 : K.lookup f15 = some ⟨oc15, od15, .func (PySem.W.fnOf "_law_pick" "_law_pick" (defArgs st__law_pick) (defBody st__law_pick) (defScope st__law_pick) .none kV15 dc15 pm15 an15 cd15 ct15), sl15⟩) (c15 : PySem.W.codeIn K cd15 "_law_pick" = true) (k15 : PySem.W.keepIn K (.ref f15) = true)
    {f16 : Addr} {od16 an16 : Option Addr} {sl16 : Array (Option Value)} {oc16 kV16 dc16 pm16 cd16 ct16 : Value} (a16 : PySem.W.nsIn K mainGlobals "_law_call" = some (some (.ref f16))) (l16 : K.lookup f16 = some ⟨oc16, od16, .func (PySem.W.fnOf "_law_call" "_law_call" (defArgs st__law_call) (defBody st__law_call) (defScope st__law_call) .none kV16 dc16 pm16 an16 cd16 ct16), sl16⟩) (c16 : PySem.W.codeIn K cd16 "_law_call" = true) (k16 : PySem.W.keepIn K (.ref f16) = true)
    {f17 : Addr} {od17 an17 : Option Addr} {sl17 : Array (Option Value)} {oc17 kV17 dc17 pm17 cd17 ct17 : Value} (a17 : PySem.W.nsIn K mainGlobals "_law_is_count" = some (some (.ref f17))) (l17 : K.lookup f17 = some ⟨oc17, od17, .func (PySem.W.fnOf "_law_is_count" "_law_is_count" (defArgs st__law_is_count) (defBody st__law_is_count) (defScope st__law_is_count) .none kV17 dc17 pm17 an17 cd17 ct17), sl17⟩) (c17 : PySem.W.codeIn K cd17 "_law_is_count" = true) (k17 : PySem.W.keepIn K (.ref f17) = true)
    {f18 : Addr} {od18 an18 : Option Addr} {sl18 : Array (Option Value)} {oc18 kV18 dc18 pm18 cd18 ct18 : Value} (a18 : PySem.W.nsIn K mainGlobals "_law_is_rising" = some (some (.ref f18))) (l18 : K.lookup f18 = some ⟨oc18, od18, .func (PySem.W.fnOf "_law_is_rising" "_law_is_rising" (defArgs st__law_is_rising) (defBody st__law_is_rising) (defScope st__law_is_rising) .none kV18 dc18 pm18 an18 cd18 ct18), sl18⟩) (c18 : PySem.W.codeIn K cd18 "_law_is_rising" = true) (k18 : PySem.W.keepIn K (.ref f18) = true)
    {f19 : Addr} {od19 an19 : Option Addr} {sl19 : Array (Option Value)} {oc19 kV19 dc19 pm19 cd19 ct19 : Value} (a19 : PySem.W.nsIn K mainGlobals "_law_is_person" = some (some (.ref f19))) (l19 : K.lookup f19 = some ⟨oc19, od19, .func (PySem.W.fnOf "_law_is_person" "_law_is_person" (defArgs st__law_is_person) (defBody st__law_is_person) (defScope st__law_is_person) .none kV19 dc19 pm19 an19 cd19 ct19), sl19⟩) (c19 : PySem.W.codeIn K cd19 "_law_is_person" = true) (k19 : PySem.W.keepIn K (.ref f19) = true)
    {f20 : Addr} {od20 an20 : Option Addr} {sl20 : Array (Option Value)} {oc20 kV20 dc20 pm20 cd20 ct20 : Value} (a20 : PySem.W.nsIn K mainGlobals "_law_is_paper" = some (some (.ref f20))) (l20 : K.lookup f20 = some ⟨oc20, od20, .func (PySem.W.fnOf "_law_is_paper" "_law_is_paper" (defArgs st__law_is_paper) (defBody st__law_is_paper) (defScope st__law_is_paper) .none kV20 dc20 pm20 an20 cd20 ct20), sl20⟩) (c20 : PySem.W.codeIn K cd20 "_law_is_paper" = true) (k20 : PySem.W.keepIn K (.ref f20) = true)
    {f21 : Addr} {od21 an21 : Option Addr} {sl21 : Array (Option Value)} {oc21 kV21 dc21 pm21 cd21 ct21 : Value} (a21 : PySem.W.nsIn K mainGlobals "_law_is_tie" = some (some (.ref f21))) (l21 : K.lookup f21 = some ⟨oc21, od21, .func (PySem.W.fnOf "_law_is_tie" "_law_is_tie" (defArgs st__law_is_tie) (defBody st__law_is_tie) (defScope st__law_is_tie) .none kV21 dc21 pm21 an21 cd21 ct21), sl21⟩) (c21 : PySem.W.codeIn K cd21 "_law_is_tie" = true) (k21 : PySem.W.keepIn K (.ref f21) = true)
    {f22 : Addr} {od22 an22 : Option Addr} {sl22 : Array (Option Value)} {oc22 kV22 dc22 pm22 cd22 ct22 : Value} (a22 : PySem.W.nsIn K mainGlobals "_law_flaw" = some (some (.ref f22))) (l22 : K.lookup f22 = some ⟨oc22, od22, .func (PySem.W.fnOf "_law_flaw" "_law_flaw" (defArgs st__law_flaw) (defBody st__law_flaw) (defScope st__law_flaw) .none kV22 dc22 pm22 an22 cd22 ct22), sl22⟩) (c22 : PySem.W.codeIn K cd22 "_law_flaw" = true) (k22 : PySem.W.keepIn K (.ref f22) = true)
    {f23 : Addr} {od23 an23 : Option Addr} {sl23 : Array (Option Value)} {oc23 kV23 dc23 pm23 cd23 ct23 : Value} (a23 : PySem.W.nsIn K mainGlobals "_law_bent" = some (some (.ref f23))) (l23 : K.lookup f23 = some ⟨oc23, od23, .func (PySem.W.fnOf "_law_bent" "_law_bent" (defArgs st__law_bent) (defBody st__law_bent) (defScope st__law_bent) .none kV23 dc23 pm23 an23 cd23 ct23), sl23⟩) (c23 : PySem.W.codeIn K cd23 "_law_bent" = true) (k23 : PySem.W.keepIn K (.ref f23) = true)
    {f24 : Addr} {od24 an24 : Option Addr} {sl24 : Array (Option Value)} {oc24 kV24 dc24 pm24 cd24 ct24 : Value} (a24 : PySem.W.nsIn K mainGlobals "_law_right" = some (some (.ref f24))) (l24 : K.lookup f24 = some ⟨oc24, od24, .func (PySem.W.fnOf "_law_right" "_law_right" (defArgs st__law_right) (defBody st__law_right) (defScope st__law_right) .none kV24 dc24 pm24 an24 cd24 ct24), sl24⟩) (c24 : PySem.W.codeIn K cd24 "_law_right" = true) (k24 : PySem.W.keepIn K (.ref f24) = true)
    {f25 : Addr} {od25 an25 : Option Addr} {sl25 : Array (Option Value)} {oc25 kV25 dc25 pm25 cd25 ct25 : Value} (a25 : PySem.W.nsIn K mainGlobals "law" = some (some (.ref f25))) (l25 : K.lookup f25 = some ⟨oc25, od25, .func (PySem.W.fnOf "law" "law" (defArgs st_law) (defBody st_law) (defScope st_law) .none kV25 dc25 pm25 an25 cd25 ct25), sl25⟩) (c25 : PySem.W.codeIn K cd25 "law" = true) (k25 : PySem.W.keepIn K (.ref f25) = true)
    (z_abs : PySem.W.nsIn K mainGlobals "abs" = some none)
    (z_all : PySem.W.nsIn K mainGlobals "all" = some none)
    (z_bool : PySem.W.nsIn K mainGlobals "bool" = some none)
    (z_divmod : PySem.W.nsIn K mainGlobals "divmod" = some none)
    (z_int : PySem.W.nsIn K mainGlobals "int" = some none)
    (z_isinstance : PySem.W.nsIn K mainGlobals "isinstance" = some none)
    (z_len : PySem.W.nsIn K mainGlobals "len" = some none)
    (z_list : PySem.W.nsIn K mainGlobals "list" = some none)
    (z_max : PySem.W.nsIn K mainGlobals "max" = some none)
    (z_min : PySem.W.nsIn K mainGlobals "min" = some none)
    (z_range : PySem.W.nsIn K mainGlobals "range" = some none)
    (z_repr : PySem.W.nsIn K mainGlobals "repr" = some none)
    (z_str : PySem.W.nsIn K mainGlobals "str" = some none)
    (z_sum : PySem.W.nsIn K mainGlobals "sum" = some none)
    (z_tuple : PySem.W.nsIn K mainGlobals "tuple" = some none)
    (z_zip : PySem.W.nsIn K mainGlobals "zip" = some none)
    {t_MOST_LOAD : Tok} (v_MOST_LOAD : PySem.W.nsIn K mainGlobals "MOST_LOAD" = some (some (.int 9 t_MOST_LOAD)))
    {t_MOST_PAPERS : Tok} (v_MOST_PAPERS : PySem.W.nsIn K mainGlobals "MOST_PAPERS" = some (some (.int 8 t_MOST_PAPERS)))
    {t_MOST_PEOPLE : Tok} (v_MOST_PEOPLE : PySem.W.nsIn K mainGlobals "MOST_PEOPLE" = some (some (.int 8 t_MOST_PEOPLE)))
    {t_MOST_WANTS : Tok} (v_MOST_WANTS : PySem.W.nsIn K mainGlobals "MOST_WANTS" = some (some (.int 4 t_MOST_WANTS)))
    : ∃ fd : FuncData, (∀ (s : Shared) (v : Value), BindsTo s fd ⟨[v], []⟩ [("script", v)]) ∧ ∀ base : Heap, K.In base → base.Ns mainGlobals mg → FnG Pr w K mg base 10 fa fd ["script"] (spF K mg 1 m_law) := by
  have e := hfa.symm.trans (PySem.W.mg_of X G a25)
  cases e
  have M : Mg mg := ⟨PySem.W.mg_none_of X G z_abs, PySem.W.mg_none_of X G z_all, PySem.W.mg_none_of X G z_bool, PySem.W.mg_none_of X G z_divmod, PySem.W.mg_none_of X G z_int, PySem.W.mg_none_of X G z_isinstance, PySem.W.mg_none_of X G z_len, PySem.W.mg_none_of X G z_list, PySem.W.mg_none_of X G z_max, PySem.W.mg_none_of X G z_min, PySem.W.mg_none_of X G z_range, PySem.W.mg_none_of X G z_repr, PySem.W.mg_none_of X G z_str, PySem.W.mg_none_of X G z_sum, PySem.W.mg_none_of X G z_tuple, PySem.W.mg_none_of X G z_zip, ⟨_, PySem.W.mg_of X G v_MOST_LOAD⟩, ⟨_, PySem.W.mg_of X G v_MOST_PAPERS⟩, ⟨_, PySem.W.mg_of X G v_MOST_PEOPLE⟩, ⟨_, PySem.W.mg_of X G v_MOST_WANTS⟩⟩
  have F0 := fun_mk (st := st_is_integer) l0 c0 k0
  have D0 : DefIs K mg "is_integer" st_is_integer ["value"] _ _ := ⟨PySem.W.mg_of X G a0, k0, F0.binds (ps := ["value"]) (fun _ _ _ _ _ _ us hl => match us, hl with | [_], _ => rfl), F0⟩
  have F1 := fun_mk (st := st_is_count) l1 c1 k1
  have D1 : DefIs K mg "is_count" st_is_count ["value"] _ _ := ⟨PySem.W.mg_of X G a1, k1, F1.binds (ps := ["value"]) (fun _ _ _ _ _ _ us hl => match us, hl with | [_], _ => rfl), F1⟩
  have F2 := fun_mk (st := st_is_position) l2 c2 k2
  have D2 : DefIs K mg "is_position" st_is_position ["value", "many"] _ _ := ⟨PySem.W.mg_of X G a2, k2, F2.binds (ps := ["value", "many"]) (fun _ _ _ _ _ _ us hl => match us, hl with | [_, _], _ => rfl), F2⟩
  have F3 := fun_mk (st := st_is_rising_tuple) l3 c3 k3
  have D3 : DefIs K mg "is_rising_tuple" st_is_rising_tuple ["value", "many"] _ _ := ⟨PySem.W.mg_of X G a3, k3, F3.binds (ps := ["value", "many"]) (fun _ _ _ _ _ _ us hl => match us, hl with | [_, _], _ => rfl), F3⟩
  have F4 := fun_mk (st := st_person_is_right) l4 c4 k4
  have D4 : DefIs K mg "person_is_right" st_person_is_right ["value"] _ _ := ⟨PySem.W.mg_of X G a4, k4, F4.binds (ps := ["value"]) (fun _ _ _ _ _ _ us hl => match us, hl with | [_], _ => rfl), F4⟩
  have F5 := fun_mk (st := st_people_are_right) l5 c5 k5
  have D5 : DefIs K mg "people_are_right" st_people_are_right ["value"] _ _ := ⟨PySem.W.mg_of X G a5, k5, F5.binds (ps := ["value"]) (fun _ _ _ _ _ _ us hl => match us, hl with | [_], _ => rfl), F5⟩
  have F6 := fun_mk (st := st_paper_is_right) l6 c6 k6
  have D6 : DefIs K mg "paper_is_right" st_paper_is_right ["people", "value"] _ _ := ⟨PySem.W.mg_of X G a6, k6, F6.binds (ps := ["people", "value"]) (fun _ _ _ _ _ _ us hl => match us, hl with | [_, _], _ => rfl), F6⟩
  have F7 := fun_mk (st := st_papers_are_right) l7 c7 k7
  have D7 : DefIs K mg "papers_are_right" st_papers_are_right ["people", "value"] _ _ := ⟨PySem.W.mg_of X G a7, k7, F7.binds (ps := ["people", "value"]) (fun _ _ _ _ _ _ us hl => match us, hl with | [_, _], _ => rfl), F7⟩
  have F8 := fun_mk (st := st_tie_is_right) l8 c8 k8
  have D8 : DefIs K mg "tie_is_right" st_tie_is_right ["people", "value"] _ _ := ⟨PySem.W.mg_of X G a8, k8, F8.binds (ps := ["people", "value"]) (fun _ _ _ _ _ _ us hl => match us, hl with | [_, _], _ => rfl), F8⟩
  have F9 := fun_mk (st := st_ties_are_right) l9 c9 k9
  have D9 : DefIs K mg "ties_are_right" st_ties_are_right ["people", "value"] _ _ := ⟨PySem.W.mg_of X G a9, k9, F9.binds (ps := ["people", "value"]) (fun _ _ _ _ _ _ us hl => match us, hl with | [_, _], _ => rfl), F9⟩
  have F10 := fun_mk (st := st_flaw_of) l10 c10 k10
  have D10 : DefIs K mg "flaw_of" st_flaw_of ["value"] _ _ := ⟨PySem.W.mg_of X G a10, k10, F10.binds (ps := ["value"]) (fun _ _ _ _ _ _ us hl => match us, hl with | [_], _ => rfl), F10⟩
  have F11 := fun_mk (st := st_is_call) l11 c11 k11
  have D11 : DefIs K mg "is_call" st_is_call ["value"] _ _ := ⟨PySem.W.mg_of X G a11, k11, F11.binds (ps := ["value"]) (fun _ _ _ _ _ _ us hl => match us, hl with | [_], _ => rfl), F11⟩
  have F12 := fun_mk (st := st_flaw) l12 c12 k12
  have D12 : DefIs K mg "flaw" st_flaw ["value"] _ _ := ⟨PySem.W.mg_of X G a12, k12, F12.binds (ps := ["value"]) (fun _ _ _ _ _ _ us hl => match us, hl with | [_], _ => rfl), F12⟩
  have F13 := fun_mk (st := st__law_pot) l13 c13 k13
  have D13 : DefIs K mg "_law_pot" st__law_pot ["script", "k"] _ _ := ⟨PySem.W.mg_of X G a13, k13, F13.binds (ps := ["script", "k"]) (fun _ _ _ _ _ _ us hl => match us, hl with | [_, _], _ => rfl), F13⟩
  have F14 := fun_mk (st := st__law_draw) l14 c14 k14
  have D14 : DefIs K mg "_law_draw" st__law_draw ["pot", "many"] _ _ := ⟨PySem.W.mg_of X G a14, k14, F14.binds (ps := ["pot", "many"]) (fun _ _ _ _ _ _ us hl => match us, hl with | [_, _], _ => rfl), F14⟩
  have F15 := fun_mk (st := st__law_pick) l15 c15 k15
  have D15 : DefIs K mg "_law_pick" st__law_pick ["pot", "some"] _ _ := ⟨PySem.W.mg_of X G a15, k15, F15.binds (ps := ["pot", "some"]) (fun _ _ _ _ _ _ us hl => match us, hl with | [_, _], _ => rfl), F15⟩
  have F16 := fun_mk (st := st__law_call) l16 c16 k16
  have D16 : DefIs K mg "_law_call" st__law_call ["pot", "most_people", "most_papers"] _ _ := ⟨PySem.W.mg_of X G a16, k16, F16.binds (ps := ["pot", "most_people", "most_papers"]) (fun _ _ _ _ _ _ us hl => match us, hl with | [_, _, _], _ => rfl), F16⟩
  have F17 := fun_mk (st := st__law_is_count) l17 c17 k17
  have D17 : DefIs K mg "_law_is_count" st__law_is_count ["value", "least", "most"] _ _ := ⟨PySem.W.mg_of X G a17, k17, F17.binds (ps := ["value", "least", "most"]) (fun _ _ _ _ _ _ us hl => match us, hl with | [_, _, _], _ => rfl), F17⟩
  have F18 := fun_mk (st := st__law_is_rising) l18 c18 k18
  have D18 : DefIs K mg "_law_is_rising" st__law_is_rising ["value", "many"] _ _ := ⟨PySem.W.mg_of X G a18, k18, F18.binds (ps := ["value", "many"]) (fun _ _ _ _ _ _ us hl => match us, hl with | [_, _], _ => rfl), F18⟩
  have F19 := fun_mk (st := st__law_is_person) l19 c19 k19
  have D19 : DefIs K mg "_law_is_person" st__law_is_person ["value"] _ _ := ⟨PySem.W.mg_of X G a19, k19, F19.binds (ps := ["value"]) (fun _ _ _ _ _ _ us hl => match us, hl with | [_], _ => rfl), F19⟩
  have F20 := fun_mk (st := st__law_is_paper) l20 c20 k20
  have D20 : DefIs K mg "_law_is_paper" st__law_is_paper ["many", "value"] _ _ := ⟨PySem.W.mg_of X G a20, k20, F20.binds (ps := ["many", "value"]) (fun _ _ _ _ _ _ us hl => match us, hl with | [_, _], _ => rfl), F20⟩
  have F21 := fun_mk (st := st__law_is_tie) l21 c21 k21
  have D21 : DefIs K mg "_law_is_tie" st__law_is_tie ["many", "value"] _ _ := ⟨PySem.W.mg_of X G a21, k21, F21.binds (ps := ["many", "value"]) (fun _ _ _ _ _ _ us hl => match us, hl with | [_, _], _ => rfl), F21⟩
  have F22 := fun_mk (st := st__law_flaw) l22 c22 k22
  have D22 : DefIs K mg "_law_flaw" st__law_flaw ["value"] _ _ := ⟨PySem.W.mg_of X G a22, k22, F22.binds (ps := ["value"]) (fun _ _ _ _ _ _ us hl => match us, hl with | [_], _ => rfl), F22⟩
  have F23 := fun_mk (st := st__law_bent) l23 c23 k23
  have D23 : DefIs K mg "_law_bent" st__law_bent ["pot", "value"] _ _ := ⟨PySem.W.mg_of X G a23, k23, F23.binds (ps := ["pot", "value"]) (fun _ _ _ _ _ _ us hl => match us, hl with | [_, _], _ => rfl), F23⟩
  have F24 := fun_mk (st := st__law_right) l24 c24 k24
  have D24 : DefIs K mg "_law_right" st__law_right ["pot"] _ _ := ⟨PySem.W.mg_of X G a24, k24, F24.binds (ps := ["pot"]) (fun _ _ _ _ _ _ us hl => match us, hl with | [_], _ => rfl), F24⟩
  have F25 := fun_mk (st := st_law) l25 c25 k25
  have D25 : DefIs K mg "law" st_law ["script"] _ _ := ⟨PySem.W.mg_of X G a25, k25, F25.binds (ps := ["script"]) (fun _ _ _ _ _ _ us hl => match us, hl with | [_], _ => rfl), F25⟩
  refine ⟨PySem.W.fnOf "law" "law" (defArgs st_law) (defBody st_law) (defScope st_law) .none kV25 dc25 pm25 an25 cd25 ct25, fun s v => .of_eq rfl, fun base _ _ => ?_⟩
  have G14 := G__law_draw (Pr := Pr) (w := w) (base := base) M D14 
  have O__law_draw := D14.ok G14
  have G15 := G__law_pick (Pr := Pr) (w := w) (base := base) M D15 O__law_draw
  have O__law_pick := D15.ok G15
  have G16 := G__law_call (Pr := Pr) (w := w) (base := base) M D16 O__law_draw O__law_pick
  have O__law_call := D16.ok G16
  have G23 := G__law_bent (Pr := Pr) (w := w) (base := base) M D23 O__law_pick O__law_draw 6
  have O__law_bent := D23.ok G23
  have G17 := G__law_is_count (Pr := Pr) (w := w) (base := base) M D17 
  have O__law_is_count := D17.ok G17
  have G19 := G__law_is_person (Pr := Pr) (w := w) (base := base) M D19 O__law_is_count
  have O__law_is_person := D19.ok G19
  have G18 := G__law_is_rising (Pr := Pr) (w := w) (base := base) M D18 O__law_is_count
  have O__law_is_rising := D18.ok G18
  have G20 := G__law_is_paper (Pr := Pr) (w := w) (base := base) M D20 O__law_is_rising O__law_is_count
  have O__law_is_paper := D20.ok G20
  have G21 := G__law_is_tie (Pr := Pr) (w := w) (base := base) M D21 O__law_is_rising
  have O__law_is_tie := D21.ok G21
  have G22 := G__law_flaw (Pr := Pr) (w := w) (base := base) M D22 O__law_is_person O__law_is_paper O__law_is_tie
  have O__law_flaw := D22.ok G22
  have G0 := G_is_integer (Pr := Pr) (w := w) (base := base) M D0 
  have O_is_integer := D0.ok G0
  have G1 := G_is_count (Pr := Pr) (w := w) (base := base) M D1 O_is_integer
  have O_is_count := D1.ok G1
  have G4 := G_person_is_right (Pr := Pr) (w := w) (base := base) M D4 O_is_count
  have O_person_is_right := D4.ok G4
  have G5 := G_people_are_right (Pr := Pr) (w := w) (base := base) M D5 O_person_is_right
  have O_people_are_right := D5.ok G5
  have G2 := G_is_position (Pr := Pr) (w := w) (base := base) M D2 O_is_integer
  have O_is_position := D2.ok G2
  have G3 := G_is_rising_tuple (Pr := Pr) (w := w) (base := base) M D3 O_is_position
  have O_is_rising_tuple := D3.ok G3
  have G6 := G_paper_is_right (Pr := Pr) (w := w) (base := base) M D6 O_is_rising_tuple O_is_count
  have O_paper_is_right := D6.ok G6
  have G7 := G_papers_are_right (Pr := Pr) (w := w) (base := base) M D7 O_paper_is_right
  have O_papers_are_right := D7.ok G7
  have G8 := G_tie_is_right (Pr := Pr) (w := w) (base := base) M D8 O_is_rising_tuple
  have O_tie_is_right := D8.ok G8
  have G9 := G_ties_are_right (Pr := Pr) (w := w) (base := base) M D9 O_tie_is_right
  have O_ties_are_right := D9.ok G9
  have G10 := G_flaw_of (Pr := Pr) (w := w) (base := base) M D10 O_people_are_right O_papers_are_right O_ties_are_right
  have O_flaw_of := D10.ok G10
  have G11 := G_is_call (Pr := Pr) (w := w) (base := base) M D11 O_flaw_of
  have O_is_call := D11.ok G11
  have KO_is_call_0 := D11.okK (ks := ["value"]) (n' := 1) (ix := [0]) G11 (kb_mk (by decide) (fun s ws hl => match ws, hl with | [_], _ => .of_eq rfl))
  have G12 := G_flaw (Pr := Pr) (w := w) (base := base) M D12 O_flaw_of
  have O_flaw := D12.ok G12
  have KO_flaw_0 := D12.okK (ks := ["value"]) (n' := 1) (ix := [0]) G12 (kb_mk (by decide) (fun s ws hl => match ws, hl with | [_], _ => .of_eq rfl))
  have G24 := G__law_right (Pr := Pr) (w := w) (base := base) M D24 O__law_call O__law_bent O__law_flaw O_is_call KO_is_call_0 O_flaw KO_flaw_0
  have O__law_right := D24.ok G24
  have G13 := G__law_pot (Pr := Pr) (w := w) (base := base) M D13 
  have O__law_pot := D13.ok G13
  have G25 := G_law (Pr := Pr) (w := w) (base := base) M D25 O__law_right O__law_pot
  have O_law := D25.ok G25
  exact G25

end K16
namespace K16
open PySem PySem.Spec PyProof.Rows L2 PD
/-! ### what the checks mean -/
def isInt : PyData → Bool
  | .int _ => true
  | _ => false
theorem ev_is_integer (x : PyData) : m_is_integer [.d x] = .ok (.d (.bool (isInt x)), [.un]) := by cases x <;> rfl
def cnt (lo hi : Int) : PyData → Bool
  | .int i => decide (lo ≤ i) && decide (i ≤ hi)
  | _ => false
def upP : PyData → Bool
  | .tuple [a, b] => PySem.W.dataLt a b
  | _ => false
def up (xs : List PyData) : Bool := (pairD xs (xs.drop 1)).all upP
def rising (m : Int) : PyData → Bool
  | .tuple xs => xs.all (cnt 0 (m - 1)) && up xs
  | _ => false
def person : PyData → Bool
  | .tuple [.int a, .int b] => cnt 0 9 (.int a) && cnt 0 9 (.int b) && decide (a ≤ b)
  | _ => false
def lenIn (lo hi : Nat) (xs : List PyData) : Bool := decide (lo ≤ xs.length) && decide (xs.length ≤ hi)
def people : PyData → Bool
  | .tuple xs => lenIn 1 8 xs && xs.all person
  | _ => false
def paper (m : Int) : PyData → Bool
  | .tuple [a, b] => cnt 1 4 a && rising m b
  | _ => false
def papers (m : Int) : PyData → Bool
  | .tuple xs => lenIn 1 8 xs && xs.all (paper m)
  | _ => false
def tie (m : Int) : PyData → Bool
  | .tuple [a, b] => rising m (.tuple [a, b])
  | _ => false
def ties (m : Int) : PyData → Bool
  | .tuple xs => xs.all (tie m) && up xs
  | _ => false
theorem pair_mem {xs ys : List PyData} {d : PyData} (h : d ∈ pairD xs ys) : ∃ a b, d = .tuple [a, b] ∧ a ∈ xs ∧ b ∈ ys := by
  induction xs generalizing ys with
  | nil => cases h
  | cons x xs ih =>
    cases ys with
    | nil => cases h
    | cons y ys =>
      rcases List.mem_cons.mp h with rfl | h
      · exact ⟨x, y, rfl, by simp, by simp⟩
      · obtain ⟨a, b, e, h1, h2⟩ := ih h
        exact ⟨a, b, e, by simp [h1], by simp [h2]⟩
theorem ev_is_position (x : PyData) (m : Int) : m_is_position [.d x, .d (.int m)] = .ok (.d (.bool (cnt 0 (m - 1) x)), [.un, .un]) := by
  cases x with
  | int i =>
    by_cases h : (0 : Int) ≤ i
    · have e : decide (i < m) = decide (i ≤ m - 1) := by
        by_cases h2 : i < m
        · rw [decide_eq_true h2, decide_eq_true (by omega)]
        · rw [decide_eq_false h2, decide_eq_false (by omega)]
      simp [m_is_position, mFn, b_is_position, ev_is_integer, isInt, h, unS, outP, cnt, e]
    · simp [m_is_position, mFn, b_is_position, ev_is_integer, isInt, h, unS, outP, cnt]
  | _ => rfl
theorem ev_is_count (x : PyData) : m_is_count [.d x] = .ok (.d (.bool (match x with | .int i => decide (0 ≤ i) | _ => false)), [.un]) := by
  cases x with
  | int i => simp [m_is_count, mFn, b_is_count, ev_is_integer, isInt, unS, outP]
  | _ => rfl
theorem ev_cnt (x : PyData) (lo hi : Int) : m__law_is_count [.d x, .d (.int lo), .d (.int hi)] = .ok (.d (.bool (cnt lo hi x)), [.un, .un, .un]) := by
  cases x with
  | int i =>
    by_cases h : lo ≤ i
    · simp [m__law_is_count, mFn, b__law_is_count, isTy, h, unS, outP, cnt]
    · simp [m__law_is_count, mFn, b__law_is_count, isTy, h, unS, outP, cnt]
  | _ => rfl
theorem cnt_int {lo hi : Int} {x : PyData} (h : cnt lo hi x = true) : ∃ i, x = .int i := by
  cases x <;> first | exact ⟨_, rfl⟩ | cases h
/-- the pairs' comparison -/
theorem lt_ok {a b : PyData} (h : okLt a b = true) : dLt a b = .ok (.d (.bool (PySem.W.dataLt a b))) := by
  show oB (fun x y => if okLt x y = true then some (PySem.W.dataLt x y) else none) a b = _
  unfold oB
  simp only [h, if_true]
theorem ge_ok {a b : PyData} (h : okLt a b = true) : dGe a b = .ok (.d (.bool (!PySem.W.dataLt a b))) := by
  show oB (fun x y => if okLt x y = true then some (!PySem.W.dataLt x y) else none) a b = _
  unfold oB
  simp only [h, if_true]
theorem okLt_ints {a b : PyData} (ha : isInt a = true) (hb : isInt b = true) : okLt a b = true := by
  cases a <;> first | cases ha | skip
  cases b <;> first | cases hb | skip
  rfl
theorem cnt_isInt {lo hi : Int} {x : PyData} (h : cnt lo hi x = true) : isInt x = true := by
  obtain ⟨i, rfl⟩ := cnt_int h; rfl
theorem pairD_len_le (xs : List PyData) : (pairD xs (xs.drop 1)).length ≤ xs.length := by
  rw [pairD_len]; exact Nat.min_le_left _ _
theorem ev_rising (x : PyData) (m : Int) (hx : ∀ xs, x = .tuple xs → xs.length ≤ sizeLine) : m_is_rising_tuple [.d x, .d (.int m)] = .ok (.d (.bool (rising m x)), [.un, .un]) := by
  cases x with
  | tuple xs =>
    have hl := hx xs rfl
    have e1 : eLc (iD (eVar 0)) [2] (wName 2) tYs (dm (eCall0 m_is_position (aCons (eVar 2) (aCons (eVar 1) aNil)))) [.d (.tuple xs), .d (.int m), .un, .un] = .ok (.ol (xs.map fun d => .bool (cnt 0 (m - 1) d)), [.d (.tuple xs), .d (.int m), .un, .un]) :=
      eLc_all _ (xs := xs) (by simp) hl fun d hd => ⟨_, _, rfl, by simp [wipeS, ev_is_position]; rfl, by simp [wipeS]⟩
    cases h : xs.all (cnt 0 (m - 1)) with
    | false => simp [m_is_rising_tuple, mFn, b_is_rising_tuple, isTy, unS, outP, e1, dAll_map, h, rising]
    | true =>
      have e2 : eLc (iA zipA (aCons (eVar 0) (aCons (dm (eSl dSl (eVar 0) (pInt (eC (.int 1))) pNo)) aNil))) [2, 3] (wTup (wsCons (wName 2) (wsCons (wName 3) wsNil))) tYs (dm (eBin dLt (eVar 2) (eVar 3))) [.d (.tuple xs), .d (.int m), .un, .un]
          = .ok (.ol ((pairD xs (xs.drop 1)).map fun d => .bool (upP d)), [.d (.tuple xs), .d (.int m), .un, .un]) := by
        refine eLc_all _ (xs := pairD xs (xs.drop 1)) (by simp [cut1]) (Nat.le_trans (pairD_len_le xs) hl) fun d hd => ?_
        obtain ⟨a, b, rfl, ha, hb⟩ := pair_mem hd
        rw [List.all_eq_true] at h
        have hok := okLt_ints (cnt_isInt (h a ha)) (cnt_isInt (h b (List.mem_of_mem_drop hb)))
        exact ⟨_, _, rfl, by simp [wipeS, lt_ok hok, upP]; rfl, by simp [wipeS]⟩
      simp [m_is_rising_tuple, mFn, b_is_rising_tuple, isTy, unS, outP, e1, e2, dAll_map, h, rising, up]
  | _ => rfl
end K16

namespace K16
open PySem PySem.Spec PyProof.Rows L2 PD
theorem flt_not {α : Type} (p : α → Bool) (xs : List α) : (xs.filter fun x => !p x).isEmpty = xs.all p := by
  induction xs with
  | nil => rfl
  | cons x xs ih =>
    rw [List.filter_cons, List.all_cons]
    cases h : p x with
    | true => simp only [Bool.not_true, Bool.false_eq_true, if_false, Bool.true_and]; exact ih
    | false => rfl
theorem ev_rising' (x : PyData) (m : Int) (hx : ∀ xs, x = .tuple xs → xs.length ≤ sizeLine) : m__law_is_rising [.d x, .d (.int m)] = .ok (.d (.bool (rising m x)), [.un, .un]) := by
  cases x with
  | tuple xs =>
    have hl := hx xs rfl
    have e1 : eLc (iD (eVar 0)) [2] (wName 2) (tNo (ofE (dm (eCall0 m__law_is_count (aCons (eVar 2) (aCons (eC (.int 0)) (aCons (dm (eBin dSub (eVar 1) (eC (.int 1)))) aNil))))))) (eVar 2) [.d (.tuple xs), .d (.int m), .un, .un] = .ok (.ol (xs.filter fun d => !cnt 0 (m - 1) d), [.d (.tuple xs), .d (.int m), .un, .un]) :=
      eLc_flt _ (xs := xs) (by simp) hl fun d hd => ⟨_, _, rfl, by simp [wipeS, ev_cnt]; rfl, by simp, by simp [wipeS]⟩
    cases h : xs.all (cnt 0 (m - 1)) with
    | false => simp [m__law_is_rising, mFn, b__law_is_rising, isTy, unS, outP, e1, dNe_nil, flt_not, h, rising]
    | true =>
      have e2 : eLc (iA zipA (aCons (eVar 0) (aCons (dm (eSl dSl (eVar 0) (pInt (eC (.int 1))) pNo)) aNil))) [2, 3] (wTup (wsCons (wName 2) (wsCons (wName 3) wsNil))) (ofE (dm (eBin dGe (eVar 2) (eVar 3)))) (eVar 2) [.d (.tuple xs), .d (.int m), .un, .un]
          = .ok (.ol (((pairD xs (xs.drop 1)).filter fun d => !upP d).map fun d => match d with | .tuple [a, b] => a | _ => .none), [.d (.tuple xs), .d (.int m), .un, .un]) := by
        refine eLc_map _ _ (xs := pairD xs (xs.drop 1)) (by simp [cut1]) (Nat.le_trans (pairD_len_le xs) hl) fun d hd => ?_
        obtain ⟨a, b, rfl, ha, hb⟩ := pair_mem hd
        rw [List.all_eq_true] at h
        have hok := okLt_ints (cnt_isInt (h a ha)) (cnt_isInt (h b (List.mem_of_mem_drop hb)))
        exact ⟨_, _, rfl, by simp [wipeS, ge_ok hok, upP]; rfl, by simp [wipeS], fun _ => ⟨_, by simp; rfl, by simp [wipeS]⟩⟩
      simp [m__law_is_rising, mFn, b__law_is_rising, isTy, unS, outP, e1, e2, dNe_nil, dEq_nil, flt_not, h, rising, up]
  | _ => rfl
theorem atI0 {x : PyData} {xs : List PyData} : atI (x :: xs) 0 = some x := atI_nat (j := 0) rfl
theorem atI1 {x y : PyData} {xs : List PyData} : atI (x :: y :: xs) 1 = some y := atI_nat (j := 1) rfl
theorem two_of {xs : List PyData} (h : xs.length = 2) : ∃ a b, xs = [a, b] := by
  match xs, h with
  | [a, b], _ => exact ⟨a, b, rfl⟩
theorem len_ne (n : Nat) (k : Int) : ((n : Int) == k) = decide ((n : Int) = k) := rfl
theorem person_no {xs : List PyData} (h : xs.length ≠ 2) : person (.tuple xs) = false := by
  unfold person
  split
  · rename_i e; cases e; exact absurd rfl h
  · rfl
theorem ev_person (x : PyData) (hx : ∀ xs, x = .tuple xs → xs.length ≤ sizeLine) : m_person_is_right [.d x] = .ok (.d (.bool (person x)), [.un]) := by
  cases x with
  | tuple xs =>
    have hl := hx xs rfl
    by_cases h2 : xs.length = 2
    · obtain ⟨a, b, rfl⟩ := two_of h2
      have e1 : eLc (iD (eVar 0)) [1] (wName 1) tYs (eAn (dm (eCall0 m_is_count (aCons (eVar 1) aNil))) (dm (eBin dLe (eVar 1) (eC (.int 9))))) [.d (.tuple [a, b]), .un] = .ok (.ol ([a, b].map fun d => .bool (cnt 0 9 d)), [.d (.tuple [a, b]), .un]) := by
        refine eLc_all _ (xs := [a, b]) (by simp) hl fun d hd => ?_
        cases d with
        | int i =>
          by_cases h : (0 : Int) ≤ i
          · exact ⟨_, _, rfl, by simp [wipeS, ev_is_count, h, cnt]; rfl, by simp [wipeS]⟩
          · exact ⟨_, _, rfl, by simp [wipeS, ev_is_count, h, cnt]; rfl, by simp [wipeS]⟩
        | _ => exact ⟨_, _, rfl, by simp [wipeS, ev_is_count, cnt]; rfl, by simp [wipeS]⟩
      cases ha : cnt 0 9 a with
      | false =>
        have : person (.tuple [a, b]) = false := by
          cases a <;> first | rfl | skip
          cases b <;> first | rfl | skip
          show (cnt _ _ _ && _ && _) = false
          rw [ha]; rfl
        simp [m_person_is_right, mFn, b_person_is_right, isTy, unS, outP, e1, dAll_map, ha, this, dAll, asBools]
      | true =>
        cases hb : cnt 0 9 b with
        | false =>
          have : person (.tuple [a, b]) = false := by
            cases a <;> first | rfl | skip
            cases b <;> first | rfl | skip
            show (cnt _ _ _ && cnt _ _ _ && _) = false
            rw [hb, Bool.and_false]; rfl
          simp [m_person_is_right, mFn, b_person_is_right, isTy, unS, outP, e1, dAll_map, ha, hb, this, dAll, asBools]
        | true =>
          obtain ⟨i, rfl⟩ := cnt_int ha
          obtain ⟨j, rfl⟩ := cnt_int hb
          simp [m_person_is_right, mFn, b_person_is_right, isTy, unS, outP, e1, dAll_map, ha, hb, dAll, asBools, person, atI0, atI1]
    · have : ¬ ((xs.length : Int) = 2) := by omega
      simp [m_person_is_right, mFn, b_person_is_right, isTy, unS, outP, this, person_no h2]
  | _ => rfl
theorem paper_no {xs : List PyData} {m : Int} (h : xs.length ≠ 2) : paper m (.tuple xs) = false := by
  unfold paper
  split
  · rename_i e; cases e; exact absurd rfl h
  · rfl
theorem tie_no {xs : List PyData} {m : Int} (h : xs.length ≠ 2) : tie m (.tuple xs) = false := by
  unfold tie
  split
  · rename_i e; cases e; exact absurd rfl h
  · rfl
theorem ev_person' (x : PyData) (hx : ∀ xs, x = .tuple xs → xs.length ≤ sizeLine) : m__law_is_person [.d x] = .ok (.d (.bool (person x)), [.un]) := by
  cases x with
  | tuple xs =>
    have hl := hx xs rfl
    by_cases h2 : xs.length = 2
    · obtain ⟨a, b, rfl⟩ := two_of h2
      have e1 : eLc (iD (eVar 0)) [1] (wName 1) (tNo (ofE (dm (eCall0 m__law_is_count (aCons (eVar 1) (aCons (eC (.int 0)) (aCons (eC (.int 9)) aNil))))))) (eVar 1) [.d (.tuple [a, b]), .un] = .ok (.ol ([a, b].filter fun d => !cnt 0 9 d), [.d (.tuple [a, b]), .un]) :=
        eLc_flt _ (xs := [a, b]) (by simp) hl fun d hd => ⟨_, _, rfl, by simp [wipeS, ev_cnt]; rfl, by simp, by simp [wipeS]⟩
      have e2 : ([a, b].filter fun d => !cnt 0 9 d).isEmpty = (cnt 0 9 a && cnt 0 9 b) := by
        rw [flt_not]; simp
      cases ha : cnt 0 9 a with
      | false =>
        have : person (.tuple [a, b]) = false := by
          cases a <;> first | rfl | skip
          cases b <;> first | rfl | skip
          show (cnt _ _ _ && _ && _) = false
          rw [ha]; rfl
        rw [ha] at e2
        simp [m__law_is_person, mFn, b__law_is_person, isTy, unS, outP, e1, dNe_nil, e2, this]
      | true =>
        cases hb : cnt 0 9 b with
        | false =>
          have : person (.tuple [a, b]) = false := by
            cases a <;> first | rfl | skip
            cases b <;> first | rfl | skip
            show (cnt _ _ _ && cnt _ _ _ && _) = false
            rw [hb, Bool.and_false]; rfl
          rw [ha, hb] at e2
          simp [m__law_is_person, mFn, b__law_is_person, isTy, unS, outP, e1, dNe_nil, e2, this]
        | true =>
          rw [ha, hb] at e2
          obtain ⟨i, rfl⟩ := cnt_int ha
          obtain ⟨j, rfl⟩ := cnt_int hb
          simp [m__law_is_person, mFn, b__law_is_person, isTy, unS, outP, e1, dNe_nil, e2, ha, hb, person, atI0, atI1]
    · have : ¬ ((xs.length : Int) = 2) := by omega
      simp [m__law_is_person, mFn, b__law_is_person, isTy, unS, outP, this, person_no h2]
  | _ => rfl
/-- nothing in it is too long -/
def Ok2 (x : PyData) : Prop := ∀ xs, x = .tuple xs → xs.length ≤ sizeLine
theorem ev_paper (x : PyData) (m : Int) (h2 : ∀ xs, x = .tuple xs → ∀ y ∈ xs, Ok2 y) : m_paper_is_right [.d (.int m), .d x] = .ok (.d (.bool (paper m x)), [.un, .un]) := by
  cases x with
  | tuple xs =>
    by_cases hl : xs.length = 2
    · obtain ⟨a, b, rfl⟩ := two_of hl
      have hb := ev_rising b m (h2 _ rfl b (by simp))
      cases a with
      | int i =>
        by_cases h0 : (0 : Int) ≤ i
        · by_cases h1 : (1 : Int) ≤ i
          · by_cases h4 : i ≤ 4
            · simp [m_paper_is_right, mFn, b_paper_is_right, isTy, unS, outP, ev_is_count, atI0, atI1, h0, h1, h4, hb, paper, cnt]
            · simp [m_paper_is_right, mFn, b_paper_is_right, isTy, unS, outP, ev_is_count, atI0, atI1, h0, h1, h4, hb, paper, cnt]
          · simp [m_paper_is_right, mFn, b_paper_is_right, isTy, unS, outP, ev_is_count, atI0, atI1, h0, h1, hb, paper, cnt]
        · have h1 : ¬ (1 : Int) ≤ i := by omega
          simp [m_paper_is_right, mFn, b_paper_is_right, isTy, unS, outP, ev_is_count, atI0, atI1, h0, h1, hb, paper, cnt]
      | _ => simp [m_paper_is_right, mFn, b_paper_is_right, isTy, unS, outP, ev_is_count, atI0, atI1, hb, paper, cnt]
    · have : ¬ ((xs.length : Int) = 2) := by omega
      simp [m_paper_is_right, mFn, b_paper_is_right, isTy, unS, outP, this, paper_no hl]
  | _ => rfl
theorem ev_paper' (x : PyData) (m : Int) (h2 : ∀ xs, x = .tuple xs → ∀ y ∈ xs, Ok2 y) : m__law_is_paper [.d (.int m), .d x] = .ok (.d (.bool (paper m x)), [.un, .un]) := by
  cases x with
  | tuple xs =>
    by_cases hl : xs.length = 2
    · obtain ⟨a, b, rfl⟩ := two_of hl
      have hb := ev_rising' b m (h2 _ rfl b (by simp))
      cases h : cnt 1 4 a with
      | true => simp [m__law_is_paper, mFn, b__law_is_paper, isTy, unS, outP, ev_cnt, atI0, atI1, hb, paper, h]
      | false => simp [m__law_is_paper, mFn, b__law_is_paper, isTy, unS, outP, ev_cnt, atI0, atI1, hb, paper, h]
    · have : ¬ ((xs.length : Int) = 2) := by omega
      simp [m__law_is_paper, mFn, b__law_is_paper, isTy, unS, outP, this, paper_no hl]
  | _ => rfl
theorem ev_tie (x : PyData) (m : Int) (h : Ok2 x) : m_tie_is_right [.d (.int m), .d x] = .ok (.d (.bool (tie m x)), [.un, .un]) := by
  have hb := ev_rising x m h
  cases x with
  | tuple xs =>
    by_cases hl : xs.length = 2
    · obtain ⟨a, b, rfl⟩ := two_of hl
      cases hr : rising m (.tuple [a, b]) <;> simp [m_tie_is_right, mFn, b_tie_is_right, isTy, unS, outP, hb, hr, tie]
    · have : ¬ ((xs.length : Int) = 2) := by omega
      cases hr : rising m (.tuple xs) <;> simp [m_tie_is_right, mFn, b_tie_is_right, isTy, unS, outP, hb, hr, this, tie_no hl]
  | _ => rfl
theorem ev_tie' (x : PyData) (m : Int) (h : Ok2 x) : m__law_is_tie [.d (.int m), .d x] = .ok (.d (.bool (tie m x)), [.un, .un]) := by
  have hb := ev_rising' x m h
  cases x with
  | tuple xs =>
    by_cases hl : xs.length = 2
    · obtain ⟨a, b, rfl⟩ := two_of hl
      simp [m__law_is_tie, mFn, b__law_is_tie, isTy, unS, outP, hb, tie]
    · have : ¬ ((xs.length : Int) = 2) := by omega
      simp [m__law_is_tie, mFn, b__law_is_tie, isTy, unS, outP, this, tie_no hl]
  | _ => rfl
end K16

namespace K16
open PySem PySem.Spec PyProof.Rows L2 PD
/-! ### how much there is -/
mutual
def wt : PyData → Nat
  | .list xs => 20 + wtA xs
  | .tuple xs => 20 + wtA xs
  | _ => 20
def wtA : List PyData → Nat
  | [] => 0
  | x :: xs => wt x + 2 + wtA xs
end
theorem wtA_app : ∀ xs ys : List PyData, wtA (xs ++ ys) = wtA xs + wtA ys
  | [], ys => by simp [wtA]
  | x :: xs, ys => by rw [List.cons_append, wtA, wtA, wtA_app xs ys]; omega
theorem wtA_mem : ∀ {xs : List PyData} {x : PyData}, x ∈ xs → wt x + 2 ≤ wtA xs
  | y :: xs, x, h => by
    rw [wtA]
    rcases List.mem_cons.mp h with rfl | h
    · omega
    · have := wtA_mem h; omega
theorem wtA_len : ∀ xs : List PyData, xs.length ≤ wtA xs
  | [] => Nat.zero_le _
  | x :: xs => by rw [wtA, List.length_cons]; have := wtA_len xs; omega
theorem line_of {n : Nat} (h : n ≤ 1000000) : n ≤ sizeLine := Nat.le_trans h (by rw [sizeLine_eq]; decide)
theorem ok2_of {x : PyData} (h : wt x ≤ 1000000) : Ok2 x := fun xs e => by
  subst e
  rw [wt] at h
  exact line_of (by have := wtA_len xs; omega)
theorem wt_sub {xs : List PyData} {y : PyData} (h : wt (.tuple xs) ≤ 1000000) (hy : y ∈ xs) : wt y ≤ 1000000 := by
  rw [wt] at h
  have := wtA_mem hy
  omega
theorem ok2_sub {xs : List PyData} {y : PyData} (h : wt (.tuple xs) ≤ 1000000) (hy : y ∈ xs) : Ok2 y := ok2_of (wt_sub h hy)
theorem ok2_sub2 {x : PyData} (h : wt x ≤ 1000000) : ∀ xs, x = .tuple xs → ∀ y ∈ xs, Ok2 y := fun xs e y hy => by subst e; exact ok2_sub h hy
theorem ev_people (x : PyData) (h : wt x ≤ 1000000) : m_people_are_right [.d x] = .ok (.d (.bool (people x)), [.un]) := by
  cases x with
  | tuple xs =>
    have hl := ok2_of h xs rfl
    have e1 : eLc (iD (eVar 0)) [1] (wName 1) tYs (dm (eCall0 m_person_is_right (aCons (eVar 1) aNil))) [.d (.tuple xs), .un] = .ok (.ol (xs.map fun d => .bool (person d)), [.d (.tuple xs), .un]) :=
      eLc_all _ (xs := xs) (by simp) hl fun d hd => ⟨_, _, rfl, by simp [wipeS, ev_person d (ok2_sub h hd)]; rfl, by simp [wipeS]⟩
    by_cases h1 : 1 ≤ xs.length
    · have i1 : (1 : Int) ≤ (xs.length : Int) := by omega
      by_cases h8 : xs.length ≤ 8
      · have i8 : (xs.length : Int) ≤ 8 := by omega
        simp [m_people_are_right, mFn, b_people_are_right, isTy, unS, outP, e1, dAll_map, people, lenIn, h1, h8, i1, i8]
      · have i8 : ¬ (xs.length : Int) ≤ 8 := by omega
        simp [m_people_are_right, mFn, b_people_are_right, isTy, unS, outP, e1, dAll_map, people, lenIn, h1, h8, i1, i8]
    · have i1 : ¬ (1 : Int) ≤ (xs.length : Int) := by omega
      simp [m_people_are_right, mFn, b_people_are_right, isTy, unS, outP, e1, dAll_map, people, lenIn, h1, i1]
  | _ => rfl
theorem ev_papers (x : PyData) (m : Int) (h : wt x ≤ 1000000) : m_papers_are_right [.d (.int m), .d x] = .ok (.d (.bool (papers m x)), [.un, .un]) := by
  cases x with
  | tuple xs =>
    have hl := ok2_of h xs rfl
    have e1 : eLc (iD (eVar 1)) [2] (wName 2) tYs (dm (eCall0 m_paper_is_right (aCons (eVar 0) (aCons (eVar 2) aNil)))) [.d (.int m), .d (.tuple xs), .un] = .ok (.ol (xs.map fun d => .bool (paper m d)), [.d (.int m), .d (.tuple xs), .un]) :=
      eLc_all _ (xs := xs) (by simp) hl fun d hd => ⟨_, _, rfl, by simp [wipeS, ev_paper d m (ok2_sub2 (wt_sub h hd))]; rfl, by simp [wipeS]⟩
    by_cases h1 : 1 ≤ xs.length
    · have i1 : (1 : Int) ≤ (xs.length : Int) := by omega
      by_cases h8 : xs.length ≤ 8
      · have i8 : (xs.length : Int) ≤ 8 := by omega
        simp [m_papers_are_right, mFn, b_papers_are_right, isTy, unS, outP, e1, dAll_map, papers, lenIn, h1, h8, i1, i8]
      · have i8 : ¬ (xs.length : Int) ≤ 8 := by omega
        simp [m_papers_are_right, mFn, b_papers_are_right, isTy, unS, outP, e1, dAll_map, papers, lenIn, h1, h8, i1, i8]
    · have i1 : ¬ (1 : Int) ≤ (xs.length : Int) := by omega
      simp [m_papers_are_right, mFn, b_papers_are_right, isTy, unS, outP, e1, dAll_map, papers, lenIn, h1, i1]
  | _ => rfl
theorem ints_alike : ∀ xs ys : List PyData, xs.all isInt = true → ys.all isInt = true → PySem.W.alikeAll xs ys = true
  | [], _, _, _ => by rw [PySem.W.alikeAll]
  | x :: xs, [], _, _ => by rw [PySem.W.alikeAll]
  | x :: xs, y :: ys, h1, h2 => by
    rw [List.all_cons, Bool.and_eq_true] at h1 h2
    rw [PySem.W.alikeAll, ints_alike xs ys h1.2 h2.2, Bool.and_true]
    cases x <;> first | cases h1.1 | skip
    cases y <;> first | cases h2.1 | skip
    rfl
theorem tie_ints {m : Int} {x : PyData} (h : tie m x = true) : ∃ i j, x = .tuple [.int i, .int j] := by
  unfold tie at h
  split at h
  · rename_i a b
    have h2 : ([a, b].all (cnt 0 (m - 1)) && up [a, b]) = true := h
    rw [Bool.and_eq_true] at h2
    have h3 := h2.1
    simp only [List.all_cons, List.all_nil, Bool.and_true, Bool.and_eq_true] at h3
    obtain ⟨i, rfl⟩ := cnt_int h3.1
    obtain ⟨j, rfl⟩ := cnt_int h3.2
    exact ⟨i, j, rfl⟩
  · cases h
theorem ties_ok {m : Int} {a b : PyData} (ha : tie m a = true) (hb : tie m b = true) : okLt a b = true := by
  obtain ⟨i, j, rfl⟩ := tie_ints ha
  obtain ⟨k, l, rfl⟩ := tie_ints hb
  rfl
theorem ev_ties (x : PyData) (m : Int) (h : wt x ≤ 1000000) : m_ties_are_right [.d (.int m), .d x] = .ok (.d (.bool (ties m x)), [.un, .un]) := by
  cases x with
  | tuple xs =>
    have hl := ok2_of h xs rfl
    have e1 : eLc (iD (eVar 1)) [2] (wName 2) tYs (dm (eCall0 m_tie_is_right (aCons (eVar 0) (aCons (eVar 2) aNil)))) [.d (.int m), .d (.tuple xs), .un, .un] = .ok (.ol (xs.map fun d => .bool (tie m d)), [.d (.int m), .d (.tuple xs), .un, .un]) :=
      eLc_all _ (xs := xs) (by simp) hl fun d hd => ⟨_, _, rfl, by simp [wipeS, ev_tie d m (ok2_sub h hd)]; rfl, by simp [wipeS]⟩
    cases ht : xs.all (tie m) with
    | false => simp [m_ties_are_right, mFn, b_ties_are_right, isTy, unS, outP, e1, dAll_map, ht, ties]
    | true =>
      have e2 : eLc (iA zipA (aCons (eVar 1) (aCons (dm (eSl dSl (eVar 1) (pInt (eC (.int 1))) pNo)) aNil))) [2, 3] (wTup (wsCons (wName 2) (wsCons (wName 3) wsNil))) tYs (dm (eBin dLt (eVar 2) (eVar 3))) [.d (.int m), .d (.tuple xs), .un, .un]
          = .ok (.ol ((pairD xs (xs.drop 1)).map fun d => .bool (upP d)), [.d (.int m), .d (.tuple xs), .un, .un]) := by
        refine eLc_all _ (xs := pairD xs (xs.drop 1)) (by simp [cut1]) (Nat.le_trans (pairD_len_le xs) hl) fun d hd => ?_
        obtain ⟨a, b, rfl, ha, hb⟩ := pair_mem hd
        rw [List.all_eq_true] at ht
        have hok := ties_ok (ht a ha) (ht b (List.mem_of_mem_drop hb))
        exact ⟨_, _, rfl, by simp [wipeS, lt_ok hok, upP]; rfl, by simp [wipeS]⟩
      simp [m_ties_are_right, mFn, b_ties_are_right, isTy, unS, outP, e1, e2, dAll_map, ht, ties, up]
  | _ => rfl
/-! ### the flaw -/
def plen : PyData → Int
  | .tuple xs => (xs.length : Nat)
  | _ => 0
def flawS : PyData → PyData
  | .tuple [.str s, a, b, c] => if (s == "call") = true then (if people a = true then (if papers (plen a) b = true then (if ties (plen a) c = true then .none else .str "ties") else .str "papers") else .str "people") else .str "form"
  | _ => .str "form"
theorem four_of {xs : List PyData} (h : xs.length = 4) : ∃ a b c d, xs = [a, b, c, d] := by
  match xs, h with
  | [a, b, c, d], _ => exact ⟨a, b, c, d, rfl⟩
theorem flaw_no {xs : List PyData} (h : xs.length ≠ 4) : flawS (.tuple xs) = .str "form" := by
  unfold flawS
  split
  · rename_i e; cases e; exact absurd rfl h
  · rfl
theorem atI2 {x y z : PyData} {xs : List PyData} : atI (x :: y :: z :: xs) 2 = some z := atI_nat (j := 2) rfl
theorem atI3 {x y z u : PyData} {xs : List PyData} : atI (x :: y :: z :: u :: xs) 3 = some u := atI_nat (j := 3) rfl
theorem people_tup {a : PyData} (h : people a = true) : ∃ xs, a = .tuple xs := by
  cases a <;> first | exact ⟨_, rfl⟩ | cases h
theorem ev_flaw_of (x : PyData) (h : wt x ≤ 1000000) : m_flaw_of [.d x] = .ok (.d (flawS x), [.un]) := by
  cases x with
  | tuple xs =>
    by_cases hl : xs.length = 4
    · obtain ⟨s, a, b, c, rfl⟩ := four_of hl
      have ha := ev_people a (wt_sub h (by simp))
      have hb := fun m => ev_papers b m (wt_sub h (by simp))
      have hc := fun m => ev_ties c m (wt_sub h (by simp))
      cases s with
      | str s =>
        by_cases hs : s = "call"
        · subst hs
          cases hp : people a with
          | false => simp [m_flaw_of, mFn, b_flaw_of, isTy, unS, outP, atI0, atI1, atI2, atI3, ha, hp, flawS]
          | true =>
            obtain ⟨as, rfl⟩ := people_tup hp
            cases hq : papers (plen (.tuple as)) b with
            | false =>
              have hq' : papers (as.length : Int) b = false := hq
              simp [m_flaw_of, mFn, b_flaw_of, isTy, unS, outP, atI0, atI1, atI2, atI3, ha, hp, hb, hq, hq', flawS]
            | true =>
              have hq' : papers (as.length : Int) b = true := hq
              cases ht : ties (plen (.tuple as)) c with
              | false =>
                have ht' : ties (as.length : Int) c = false := ht
                simp [m_flaw_of, mFn, b_flaw_of, isTy, unS, outP, atI0, atI1, atI2, atI3, ha, hp, hb, hc, hq, hq', ht, ht', flawS]
              | true =>
                have ht' : ties (as.length : Int) c = true := ht
                simp [m_flaw_of, mFn, b_flaw_of, isTy, unS, outP, atI0, atI1, atI2, atI3, ha, hp, hb, hc, hq, hq', ht, ht', flawS]
        · simp [m_flaw_of, mFn, b_flaw_of, isTy, unS, outP, atI0, hs, flawS]
      | _ => simp [m_flaw_of, mFn, b_flaw_of, isTy, unS, outP, atI0, flawS]
    · have : ¬ ((xs.length : Int) = 4) := by omega
      simp [m_flaw_of, mFn, b_flaw_of, isTy, unS, outP, this, flaw_no hl]
  | _ => rfl
theorem ev_flaw (x : PyData) (h : wt x ≤ 1000000) : m_flaw [.d x] = .ok (.d (flawS x), [.un]) := by
  simp [m_flaw, mFn, b_flaw, unS, outP, ev_flaw_of x h]
theorem ev_is_call (x : PyData) (h : wt x ≤ 1000000) : m_is_call [.d x] = .ok (.d (.bool (isN (flawS x))), [.un]) := by
  simp [m_is_call, mFn, b_is_call, unS, outP, ev_flaw_of x h]
theorem ev_flaw' (x : PyData) (h : wt x ≤ 1000000) : m__law_flaw [.d x] = .ok (.d (flawS x), [.un]) := by
  cases x with
  | tuple xs =>
    by_cases hl : xs.length = 4
    · obtain ⟨s, a, b, c, rfl⟩ := four_of hl
      have wa : wt a ≤ 1000000 := wt_sub h (by simp)
      have wb : wt b ≤ 1000000 := wt_sub h (by simp)
      have wc : wt c ≤ 1000000 := wt_sub h (by simp)
      cases s with
      | str s =>
        by_cases hs : s = "call"
        · subst hs
          cases a with
          | tuple as =>
            have e1 : eLc (iD (dm (eIxO 0 (eC (.int 1))))) [2] (wName 2) (tNo (ofE (dm (eCall0 m__law_is_person (aCons (eVar 2) aNil))))) (eVar 2) [.d (.tuple [.str "call", .tuple as, b, c]), .un, .un, .un] = .ok (.ol (as.filter fun d => !person d), [.d (.tuple [.str "call", .tuple as, b, c]), .un, .un, .un]) :=
              eLc_flt _ (xs := as) (by simp [atI1]) (ok2_of wa as rfl) fun d hd => ⟨_, _, rfl, by simp [wipeS, ev_person' d (ok2_sub wa hd)]; rfl, by simp, by simp [wipeS]⟩
            have p1 : people (.tuple as) = (lenIn 1 8 as && as.all person) := rfl
            cases hp : people (.tuple as) with
            | false =>
              rw [p1] at hp
              by_cases h1 : 1 ≤ as.length
              · have i1 : (1 : Int) ≤ (as.length : Int) := by omega
                by_cases h8 : as.length ≤ 8
                · have i8 : (as.length : Int) ≤ 8 := by omega
                  have hx : as.all person = false := by simpa [lenIn, h1, h8] using hp
                  simp [m__law_flaw, mFn, b__law_flaw, isTy, unS, outP, atI0, atI1, atI2, atI3, e1, dNe_nil, flt_not, i1, i8, hx, flawS, people]
                · have i8 : ¬ (as.length : Int) ≤ 8 := by omega
                  simp [m__law_flaw, mFn, b__law_flaw, isTy, unS, outP, atI0, atI1, atI2, atI3, i1, i8, h1, h8, flawS, people, lenIn]
              · have i1 : ¬ (1 : Int) ≤ (as.length : Int) := by omega
                simp [m__law_flaw, mFn, b__law_flaw, isTy, unS, outP, atI0, atI1, atI2, atI3, i1, h1, flawS, people, lenIn]
            | true =>
              have hp0 := hp
              rw [p1, Bool.and_eq_true] at hp
              obtain ⟨hp1, hp2⟩ := hp
              unfold lenIn at hp1
              rw [Bool.and_eq_true, decide_eq_true_eq, decide_eq_true_eq] at hp1
              have i1 : (1 : Int) ≤ (as.length : Int) := by omega
              have i8 : (as.length : Int) ≤ 8 := by omega
              have hpl : plen (.tuple as) = (as.length : Int) := rfl
              cases b with
              | tuple bs =>
                have e2 : eLc (iD (dm (eIxO 0 (eC (.int 2))))) [2] (wName 2) (tNo (ofE (dm (eCall0 m__law_is_paper (aCons (eVar 1) (aCons (eVar 2) aNil)))))) (eVar 2) [.d (.tuple [.str "call", .tuple as, .tuple bs, c]), .d (.int as.length), .un, .un] = .ok (.ol (bs.filter fun d => !paper as.length d), [.d (.tuple [.str "call", .tuple as, .tuple bs, c]), .d (.int as.length), .un, .un]) :=
                  eLc_flt _ (xs := bs) (by simp [atI2]) (ok2_of wb bs rfl) fun d hd => ⟨_, _, rfl, by simp [wipeS, ev_paper' d _ (ok2_sub2 (wt_sub wb hd))]; rfl, by simp, by simp [wipeS]⟩
                have q1 : papers as.length (.tuple bs) = (lenIn 1 8 bs && bs.all (paper as.length)) := rfl
                cases hq : papers as.length (.tuple bs) with
                | false =>
                  rw [q1] at hq
                  by_cases h1 : 1 ≤ bs.length
                  · have j1 : (1 : Int) ≤ (bs.length : Int) := by omega
                    by_cases h8 : bs.length ≤ 8
                    · have j8 : (bs.length : Int) ≤ 8 := by omega
                      have hx : bs.all (paper as.length) = false := by simpa [lenIn, h1, h8] using hq
                      simp [m__law_flaw, mFn, b__law_flaw, isTy, unS, outP, atI0, atI1, atI2, atI3, e1, e2, dNe_nil, flt_not, i1, i8, j1, j8, hp2, hx, flawS, hp0, papers, hpl]
                    · have j8 : ¬ (bs.length : Int) ≤ 8 := by omega
                      simp [m__law_flaw, mFn, b__law_flaw, isTy, unS, outP, atI0, atI1, atI2, atI3, e1, e2, dNe_nil, flt_not, i1, i8, j1, j8, h1, h8, hp2, flawS, hp0, papers, hpl, lenIn]
                  · have j1 : ¬ (1 : Int) ≤ (bs.length : Int) := by omega
                    simp [m__law_flaw, mFn, b__law_flaw, isTy, unS, outP, atI0, atI1, atI2, atI3, e1, e2, dNe_nil, flt_not, i1, i8, j1, h1, hp2, flawS, hp0, papers, hpl, lenIn]
                | true =>
                  have hq0 := hq
                  rw [q1, Bool.and_eq_true] at hq
                  obtain ⟨hq1, hq2⟩ := hq
                  unfold lenIn at hq1
                  rw [Bool.and_eq_true, decide_eq_true_eq, decide_eq_true_eq] at hq1
                  have j1 : (1 : Int) ≤ (bs.length : Int) := by omega
                  have j8 : (bs.length : Int) ≤ 8 := by omega
                  cases c with
                  | tuple cs =>
                    have e3 : eLc (iD (dm (eIxO 0 (eC (.int 3))))) [2] (wName 2) (tNo (ofE (dm (eCall0 m__law_is_tie (aCons (eVar 1) (aCons (eVar 2) aNil)))))) (eVar 2) [.d (.tuple [.str "call", .tuple as, .tuple bs, .tuple cs]), .d (.int as.length), .un, .un] = .ok (.ol (cs.filter fun d => !tie as.length d), [.d (.tuple [.str "call", .tuple as, .tuple bs, .tuple cs]), .d (.int as.length), .un, .un]) :=
                      eLc_flt _ (xs := cs) (by simp [atI3]) (ok2_of wc cs rfl) fun d hd => ⟨_, _, rfl, by simp [wipeS, ev_tie' d _ (ok2_sub wc hd)]; rfl, by simp, by simp [wipeS]⟩
                    cases ht : cs.all (tie as.length) with
                    | false => simp [m__law_flaw, mFn, b__law_flaw, isTy, unS, outP, atI0, atI1, atI2, atI3, e1, e2, e3, dNe_nil, flt_not, i1, i8, j1, j8, hp2, hq2, ht, flawS, hp0, hq0, ties, hpl]
                    | true =>
                      obtain ⟨zs, e4, hz⟩ : ∃ zs : List PyData, eLc (iA zipA (aCons (dm (eIxO 0 (eC (.int 3)))) (aCons (dm (eSl dSl (dm (eIxO 0 (eC (.int 3)))) (pInt (eC (.int 1))) pNo)) aNil))) [2, 3] (wTup (wsCons (wName 2) (wsCons (wName 3) wsNil))) (ofE (dm (eBin dGe (eVar 2) (eVar 3)))) (eVar 2) [.d (.tuple [.str "call", .tuple as, .tuple bs, .tuple cs]), .d (.int as.length), .un, .un]
                          = .ok (.ol zs, [.d (.tuple [.str "call", .tuple as, .tuple bs, .tuple cs]), .d (.int as.length), .un, .un]) ∧ zs.isEmpty = up cs := by
                        refine ⟨((pairD cs (cs.drop 1)).filter fun d => !upP d).map fun d => match d with | .tuple [a, b] => a | _ => .none, ?_, ?_⟩
                        · refine eLc_map _ _ (xs := pairD cs (cs.drop 1)) (by simp [cut1, atI3]) (Nat.le_trans (pairD_len_le cs) (ok2_of wc cs rfl)) fun d hd => ?_
                          obtain ⟨a, b, rfl, ha, hb⟩ := pair_mem hd
                          rw [List.all_eq_true] at ht
                          have hok := ties_ok (ht a ha) (ht b (List.mem_of_mem_drop hb))
                          exact ⟨_, _, rfl, by simp [wipeS, ge_ok hok, upP]; rfl, by simp [wipeS], fun _ => ⟨_, by simp; rfl, by simp [wipeS]⟩⟩
                        · rw [List.isEmpty_map, flt_not]; rfl
                      have hT : ties as.length (.tuple cs) = zs.isEmpty := by
                        show (cs.all (tie as.length) && up cs) = zs.isEmpty
                        rw [ht, hz]; rfl
                      cases zs with
                      | nil => simp [m__law_flaw, mFn, b__law_flaw, isTy, unS, outP, atI0, atI1, atI2, atI3, e1, e2, e3, e4, dNe_nil, flt_not, i1, i8, j1, j8, hp2, hq2, ht, hT, flawS, hp0, hq0, hpl]
                      | cons z zs => simp [m__law_flaw, mFn, b__law_flaw, isTy, unS, outP, atI0, atI1, atI2, atI3, e1, e2, e3, e4, dNe_nil, flt_not, i1, i8, j1, j8, hp2, hq2, ht, hT, flawS, hp0, hq0, hpl]
                  | _ => simp [m__law_flaw, mFn, b__law_flaw, isTy, unS, outP, atI0, atI1, atI2, atI3, e1, e2, dNe_nil, flt_not, i1, i8, j1, j8, hp2, hq2, flawS, hp0, hq0, ties, hpl]
              | _ => simp [m__law_flaw, mFn, b__law_flaw, isTy, unS, outP, atI0, atI1, atI2, atI3, e1, dNe_nil, flt_not, i1, i8, hp2, flawS, hp0, papers, hpl]
          | _ => simp [m__law_flaw, mFn, b__law_flaw, isTy, unS, outP, atI0, atI1, atI2, atI3, flawS, people]
        · simp [m__law_flaw, mFn, b__law_flaw, isTy, unS, outP, atI0, hs, flawS]
      | _ => simp [m__law_flaw, mFn, b__law_flaw, isTy, unS, outP, atI0, flawS]
    · have : ¬ ((xs.length : Int) = 4) := by omega
      simp [m__law_flaw, mFn, b__law_flaw, isTy, unS, outP, this, flaw_no hl]
  | _ => rfl
end K16

namespace K16
open PySem PySem.Spec PyProof.Rows L2 PD
/-! ### the draws -/
def Pot (x : Sl) : Prop := ∃ a b : Int, x = .ol [.int a, .int b] ∧ 0 ≤ a ∧ 0 ≤ b ∧ b < 4294967296
theorem mulL {i : Int} (h : -(2 ^ 64) < i ∧ i < 2 ^ 64) (j : Int) : dMul (.int i) (.int j) = .ok (.d (.int (i * j))) := ev_mul (.inl h)
theorem mulR {j : Int} (h : -(2 ^ 64) < j ∧ j < 2 ^ 64) (i : Int) : dMul (.int i) (.int j) = .ok (.d (.int (i * j))) := ev_mul (.inr h)
theorem modC {j : Int} (h : 0 < j) (i : Int) : dMod (.int i) (.int j) = .ok (.d (.int (i % j))) := ev_mod h
theorem emod_in (i : Int) {j : Int} (h : 0 < j) : 0 ≤ i % j ∧ i % j < j := ⟨Int.emod_nonneg i (by omega), Int.emod_lt_of_pos i h⟩
theorem ixN0 : ixN 2 0 = some 0 := rfl
theorem ixN1 : ixN 2 1 = some 1 := rfl
theorem ev_draw {p : Sl} (hp : Pot p) {many : Int} (h1 : 1 ≤ many) (h2 : many < 1073741824) : ∃ (r : Int) (p' : Sl), m__law_draw [p, .d (.int many)] = .ok (.d (.int r), [p', .un]) ∧ 0 ≤ r ∧ r < many ∧ Pot p' := by
  obtain ⟨a, b, rfl, ha, hb, hb2⟩ := hp
  by_cases h0 : 0 < a
  · have dv : dDvm [.int a, .int many] = .ok (.d (.tuple [.int (a / many), .int (a % many)])) := ev_dvm ⟨by omega, h2⟩
    have e : m__law_draw [.ol [.int a, .int b], .d (.int many)] = .ok (.d (.int (a % many)), [.ol [.int (a / many), .int b], .un]) := by
      simp [m__law_draw, mFn, b__law_draw, unS, outP, atI0, h0, dv, ixS, ixN0]
    have hm := emod_in a (j := many) (by omega)
    exact ⟨_, _, e, hm.1, hm.2, _, _, rfl, Int.ediv_nonneg ha (by omega), hb, hb2⟩
  · have m1 := mulR (j := 39373) (by decide) b
    have d1 := modC (j := 2147483587) (by decide) (b * 39373 + 1291)
    obtain ⟨c0, c1⟩ := emod_in (b * 39373 + 1291) (j := 2147483587) (by decide)
    generalize hc : (b * 39373 + 1291) % 2147483587 = c at *
    have m2 := mulL (i := c) ⟨by omega, by omega⟩ c
    have d2 := modC (j := 2147483563) (by decide) (c * c)
    have f1 : dFdv (.int (c * c % 2147483563)) (.int 19) = .ok (.d (.int (c * c % 2147483563 / 19))) := ev_fdv (by decide)
    have d3 := modC (j := many) (by omega) (c * c % 2147483563 / 19)
    have e : m__law_draw [.ol [.int a, .int b], .d (.int many)] = .ok (.d (.int (c * c % 2147483563 / 19 % many)), [.ol [.int a, .int c], .un]) := by
      simp [m__law_draw, mFn, b__law_draw, unS, outP, atI0, atI1, h0, ixS, ixN1, m1, d1, m2, d2, f1, d3]
    have hm := emod_in (c * c % 2147483563 / 19) (j := many) (by omega)
    exact ⟨_, _, e, hm.1, hm.2, _, _, rfl, ha, c0, by omega⟩
theorem ev_pick {p : Sl} (hp : Pot p) {xs : List PyData} (h0 : xs ≠ []) (h2 : xs.length < 1073741824) : ∃ (x : PyData) (p' : Sl), m__law_pick [p, .d (.list xs)] = .ok (.d x, [p', .un]) ∧ x ∈ xs ∧ Pot p' := by
  have hl : 1 ≤ xs.length := by
    cases xs with
    | nil => exact absurd rfl h0
    | cons x xs => rw [List.length_cons]; omega
  obtain ⟨r, p', e, r0, r1, hp'⟩ := ev_draw hp (many := xs.length) (by omega) (by omega)
  have hr : r.toNat < xs.length := by omega
  have hx : atI xs r = some xs[r.toNat] := by
    have := atI_nat (xs := xs) (j := r.toNat) (List.getElem?_eq_getElem hr)
    rwa [Int.toNat_of_nonneg r0] at this
  obtain ⟨a, b, rfl, _⟩ := hp
  obtain ⟨a', b', rfl, hh⟩ := hp'
  refine ⟨xs[r.toNat], .ol [.int a', .int b'], ?_, List.getElem_mem hr, a', b', rfl, hh⟩
  simp [m__law_pick, mFn, b__law_pick, unS, outP, e, hx]
theorem cut_map (f : Int → PyData) (ns : List Int) (lo hi : Option Int) : ∃ ms : List Int, PD.cutD (ns.map f) lo hi = ms.map f := by
  unfold PD.cutD
  rw [← List.map_drop, ← List.map_take]
  exact ⟨_, rfl⟩
theorem sum_ints (ms : List Int) : dSum [.list (ms.map .int)] = .ok (.d (.int ms.sum)) := by
  show (match asInts (ms.map fun x => .int (id x)) with
    | some ns => Res.ok (Sl.d (.int ns.sum))
    | _ => .bad) = _
  rw [asInts_map]
  simp
theorem pow18 : dPow (.int 10) (.int 18) = .ok (.d (.int 1000000000000000000)) := by
  show (if 0 ≤ (18 : Int) ∧ (18 : Int) ≤ 1000000 ∧ (10 : Int).natAbs < 2 ^ 64 then Res.ok (Sl.d (.int ((10 : Int) ^ (18 : Int).toNat))) else .bad) = _
  rw [if_pos (by decide)]; rfl
theorem ev_pot (ns : List Int) {k : Int} (h0 : 0 ≤ k) (h3 : k < 1000) : ∃ p, m__law_pot [.sc ns, .d (.int k)] = .ok (p, [.un, .un]) ∧ Pot p := by
  have main : ∀ c : Int, 0 ≤ c → ∃ a b : Int, (0 ≤ a ∧ 0 ≤ b ∧ b < 4294967296) ∧ ∀ S : Sls, S[2]? = some (.d (.int c)) → S[1]? = some (.d (.int k)) →
      (eLst (aCons (dm (eCall dMax (aCons (eC (.int 0)) (aCons (dm (eBin dSub (eVar 2) (dm (eBin dPow (eC (.int 10)) (eC (.int 18)))))) aNil)))) (aCons (dm (eBin dAdd (dm (eBin dMod (dm (eCall dInt (aCons (dm (eBin dAdd (dm (eBin dAdd (dm (eBin dMul (dm (eBin dMod (dm (eCall dInt (aCons (eVar 2) aNil))) (eC (.int 2147483549)))) (eC (.int 40014)))) (dm (eBin dMul (eC (.int 7253)) (eVar 1))))) (eC (.int 1291)))) aNil))) (eC (.int 2147483563)))) (eC (.int 1)))) aNil))) S = .ok (.ol [.int a, .int b], S) := by
    intro c hc
    have d1 := modC (j := 2147483549) (by decide) c
    have m1 := mulR (j := 40014) (by decide) (c % 2147483549)
    have m2 := mulL (i := 7253) (by decide) k
    have d2 := modC (j := 2147483563) (by decide) (c % 2147483549 * 40014 + 7253 * k + 1291)
    obtain ⟨b0, b1⟩ := emod_in (c % 2147483549 * 40014 + 7253 * k + 1291) (j := 2147483563) (by decide)
    refine ⟨if c - 1000000000000000000 > 0 then c - 1000000000000000000 else 0, (c % 2147483549 * 40014 + 7253 * k + 1291) % 2147483563 + 1, ⟨by split <;> omega, by omega, by omega⟩, fun S s2 s1 => ?_⟩
    simp [s2, s1, pow18, d1, m1, m2, d2]
  by_cases hk : k < (ns.length : Int)
  · have hk' : k.toNat < ns.length := by omega
    have hx : atI ns k = some ns[k.toNat] := by
      have := atI_nat (xs := ns) (j := k.toNat) (List.getElem?_eq_getElem hk')
      rwa [Int.toNat_of_nonneg h0] at this
    generalize ns[k.toNat] = z at hx
    obtain ⟨a, b, hab, hm⟩ := main (if z < 0 then -z else z) (by split <;> omega)
    have e := hm [.sc ns, .d (.int k), .d (.int (if z < 0 then -z else z))] rfl rfl
    refine ⟨_, ?_, a, b, rfl, hab⟩
    simp only [m__law_pot, mFn, b__law_pot, ev_sSeq, ev_sSet, ev_sRet]
    simp [unS, outP, hk, hx, scAt, oI, -ev_eLst, e]
  · obtain ⟨ms, hms⟩ := cut_map .int ns none (some 1)
    have m0 := mulL (i := 1993) (by decide) k
    have d0 := modC (j := 1000003) (by decide) (if ms.sum < 0 then -ms.sum else ms.sum)
    obtain ⟨q0, q1⟩ := emod_in (if ms.sum < 0 then -ms.sum else ms.sum) (j := 1000003) (by decide)
    obtain ⟨a, b, hab, hm⟩ := main (1993 * k + 1291 + (if ms.sum < 0 then -ms.sum else ms.sum) % 1000003) (by omega)
    have e := hm [.sc ns, .d (.int k), .d (.int (1993 * k + 1291 + (if ms.sum < 0 then -ms.sum else ms.sum) % 1000003))] rfl rfl
    refine ⟨_, ?_, a, b, rfl, hab⟩
    simp only [m__law_pot, mFn, b__law_pot, ev_sSeq, ev_sSet, ev_sRet]
    simp [unS, outP, hk, hms, sum_ints, m0, d0, -ev_eLst, e]
end K16

namespace K16
open PySem PySem.Spec PyProof.Rows L2 PD
/-! ### tame values -/
def tameS (x : Str) : Bool := decide ((reprText x).length ≤ 20)
mutual
def nice (k : Nat) : PyData → Bool
  | .int i => decide (i.natAbs ≤ k)
  | .str x => tameS x
  | .list xs => niceA k xs
  | .tuple xs => niceA k xs
  | .dict kvs => kvs.isEmpty
  | _ => true
def niceA (k : Nat) : List PyData → Bool
  | [] => true
  | x :: xs => nice k x && niceA k xs
end
theorem niceA_iff {k : Nat} : ∀ {xs : List PyData}, niceA k xs = true ↔ ∀ x ∈ xs, nice k x = true
  | [] => by rw [niceA]; simp
  | x :: xs => by rw [niceA, Bool.and_eq_true, niceA_iff (xs := xs)]; simp
theorem small_int : ∀ n : Fin 41, (Str.ofString (toString ((n.val : Int) - 20))).length ≤ 20 ∧ tameS (Str.ofString (toString ((n.val : Int) - 20))) = true := by decide +kernel
theorem int_at {i : Int} (h : i.natAbs ≤ 20) : ∃ n : Fin 41, i = (n.val : Int) - 20 := ⟨⟨(i + 20).toNat, by omega⟩, by
  show i = (((i + 20).toNat : Nat) : Int) - 20
  omega⟩
theorem log_le {i : Int} (h : i.natAbs ≤ 20) : i.natAbs.log2 < 1920 := by
  have := Nat.log2_le_self i.natAbs
  omega
mutual
theorem nice_show : ∀ (d : PyData), nice 20 d = true → d.showable = true ∧ onlyE d = true ∧ d.shown.length ≤ wt d
  | .none, _ => ⟨rfl, rfl, by decide⟩
  | .bool b, _ => ⟨rfl, rfl, by cases b <;> decide⟩
  | .int i, h => by
    rw [nice, decide_eq_true_eq] at h
    obtain ⟨n, rfl⟩ := int_at h
    exact ⟨by rw [PyData.showable]; exact decide_eq_true (log_le h), rfl, (small_int n).1⟩
  | .str x, h => ⟨rfl, rfl, by
    rw [nice] at h
    unfold tameS at h
    exact of_decide_eq_true h⟩
  | .list xs, h => by
    rw [nice] at h
    obtain ⟨h1, h2, h3⟩ := niceA_show xs h
    refine ⟨by rw [PyData.showable]; exact h1, by rw [onlyE]; exact h2, ?_⟩
    rw [PyData.shown, wt]
    have := PySem.listText_len_le (PyData.shownAll xs)
    omega
  | .tuple xs, h => by
    rw [nice] at h
    obtain ⟨h1, h2, h3⟩ := niceA_show xs h
    refine ⟨by rw [PyData.showable]; exact h1, by rw [onlyE]; exact h2, ?_⟩
    rw [PyData.shown, wt]
    have := PySem.tupleText_len_le (PyData.shownAll xs)
    omega
  | .dict kvs, h => by
    rw [nice] at h
    cases kvs with
    | nil => exact ⟨rfl, rfl, by decide⟩
    | cons _ _ => cases h
theorem niceA_show : ∀ (xs : List PyData), niceA 20 xs = true → PyData.showableAll xs = true ∧ onlyEAll xs = true ∧ ((PyData.shownAll xs).map (·.length)).sum + 2 * (PyData.shownAll xs).length ≤ wtA xs
  | [], _ => ⟨rfl, rfl, by decide⟩
  | x :: xs, h => by
    rw [niceA, Bool.and_eq_true] at h
    obtain ⟨a1, a2, a3⟩ := nice_show x h.1
    obtain ⟨b1, b2, b3⟩ := niceA_show xs h.2
    refine ⟨by rw [PyData.showableAll, a1, b1]; rfl, by rw [onlyEAll, a2, b2]; rfl, ?_⟩
    rw [PyData.shownAll, wtA]
    simp only [List.map_cons, List.sum_cons, List.length_cons]
    omega
end
mutual
theorem nice_mono {j k : Nat} (h : j ≤ k) : ∀ (d : PyData), nice j d = true → nice k d = true
  | .none, _ => rfl
  | .bool _, _ => rfl
  | .int i, e => by rw [nice, decide_eq_true_eq] at e ⊢; omega
  | .str x, e => by rw [nice] at e ⊢; exact e
  | .list xs, e => by rw [nice] at e ⊢; exact niceA_mono h xs e
  | .tuple xs, e => by rw [nice] at e ⊢; exact niceA_mono h xs e
  | .dict kvs, e => by rw [nice] at e ⊢; exact e
theorem niceA_mono {j k : Nat} (h : j ≤ k) : ∀ (xs : List PyData), niceA j xs = true → niceA k xs = true
  | [], _ => rfl
  | x :: xs, e => by
    rw [niceA, Bool.and_eq_true] at e ⊢
    exact ⟨nice_mono h x e.1, niceA_mono h xs e.2⟩
end
theorem show_ok {d : PyData} (h : nice 20 d = true) (hw : wt d ≤ 1000000) (hd : d.depth ≤ 60) : showOk d = true := by
  obtain ⟨h1, h2, h3⟩ := nice_show d h
  unfold showOk
  rw [h1, h2, decide_eq_true (line_of (Nat.le_trans h3 hw)), decide_eq_true hd]; rfl
theorem ev_repr {d : PyData} (h : nice 20 d = true) (hw : wt d ≤ 1000000) (hd : d.depth ≤ 60) : dRepr [d] = .ok (.d (.str d.shown)) := by
  show (if showOk d = true then Res.ok (Sl.d (.str d.shown)) else .bad) = _
  rw [if_pos (show_ok h hw hd)]
/-! ### what bending gives -/
theorem depthA_le {n : Nat} : ∀ {xs : List PyData}, PyData.depthAll xs ≤ n ↔ ∀ x ∈ xs, x.depth ≤ n
  | [] => by simp [PyData.depthAll]
  | x :: xs => by
    rw [PyData.depthAll, Nat.max_le, depthA_le (xs := xs)]; simp
structure Tame (k n w : Nat) (d : PyData) : Prop where
  nc : nice k d = true
  dp : d.depth ≤ n
  wt : wt d ≤ w
structure TameA (k n w : Nat) (xs : List PyData) : Prop where
  nc : ∀ x ∈ xs, nice k x = true
  dp : ∀ x ∈ xs, x.depth ≤ n
  wt : wtA xs ≤ w
theorem Tame.list {k n w : Nat} {xs : List PyData} (h : TameA k n w xs) : Tame k (n + 1) (20 + w) (.list xs) :=
  ⟨by rw [nice]; exact niceA_iff.mpr h.nc, by rw [PyData.depth]; exact Nat.succ_le_succ (depthA_le.mpr h.dp), by rw [K16.wt]; exact Nat.add_le_add_left h.wt _⟩
theorem Tame.tuple {k n w : Nat} {xs : List PyData} (h : TameA k n w xs) : Tame k (n + 1) (20 + w) (.tuple xs) :=
  ⟨by rw [nice]; exact niceA_iff.mpr h.nc, by rw [PyData.depth]; exact Nat.succ_le_succ (depthA_le.mpr h.dp), by rw [K16.wt]; exact Nat.add_le_add_left h.wt _⟩
theorem Tame.ofT {k n w : Nat} {xs : List PyData} (h : Tame k n w (.tuple xs)) : ∃ n' w', n = n' + 1 ∧ w = 20 + w' ∧ TameA k n' w' xs := by
  have h1 := h.nc; have h2 := h.dp; have h3 := h.wt
  rw [nice] at h1; rw [PyData.depth] at h2; rw [K16.wt] at h3
  exact ⟨n - 1, w - 20, by omega, by omega, niceA_iff.mp h1, depthA_le.mp (by omega), by omega⟩
theorem Tame.ofL {k n w : Nat} {xs : List PyData} (h : Tame k n w (.list xs)) : ∃ n' w', n = n' + 1 ∧ w = 20 + w' ∧ TameA k n' w' xs := by
  have h1 := h.nc; have h2 := h.dp; have h3 := h.wt
  rw [nice] at h1; rw [PyData.depth] at h2; rw [K16.wt] at h3
  exact ⟨n - 1, w - 20, by omega, by omega, niceA_iff.mp h1, depthA_le.mp (by omega), by omega⟩
theorem Tame.mono {k k' n n' w w' : Nat} {d : PyData} (h : Tame k n w d) (h1 : k ≤ k') (h2 : n ≤ n') (h3 : w ≤ w') : Tame k' n' w' d := ⟨nice_mono h1 d h.nc, Nat.le_trans h.dp h2, Nat.le_trans h.wt h3⟩
theorem TameA.mono {k k' n n' w w' : Nat} {d : List PyData} (h : TameA k n w d) (h1 : k ≤ k') (h2 : n ≤ n') (h3 : w ≤ w') : TameA k' n' w' d := ⟨fun x hx => nice_mono h1 x (h.nc x hx), fun x hx => Nat.le_trans (h.dp x hx) h2, Nat.le_trans h.wt h3⟩
theorem TameA.app {k n w v : Nat} {xs ys : List PyData} (h : TameA k n w xs) (g : TameA k n v ys) : TameA k n (w + v) (xs ++ ys) :=
  ⟨fun x hx => (List.mem_append.mp hx).elim (h.nc x) (g.nc x), fun x hx => (List.mem_append.mp hx).elim (h.dp x) (g.dp x), by rw [wtA_app]; exact Nat.add_le_add h.wt g.wt⟩
theorem TameA.one {k n w : Nat} {x : PyData} (h : Tame k n w x) : TameA k n (w + 2) [x] :=
  ⟨fun y hy => by rw [List.mem_singleton] at hy; subst hy; exact h.nc, fun y hy => by rw [List.mem_singleton] at hy; subst hy; exact h.dp, by rw [wtA, wtA]; have := h.wt; omega⟩
theorem TameA.nil {k n w : Nat} : TameA k n w [] := ⟨fun _ h => (nomatch h), fun _ h => (nomatch h), Nat.zero_le _⟩
theorem TameA.mem {k n w : Nat} {xs : List PyData} {x : PyData} (h : TameA k n w xs) (hx : x ∈ xs) : Tame k n w x := ⟨h.nc x hx, h.dp x hx, by have := wtA_mem hx; have := h.wt; omega⟩
theorem wtA_sub {xs ys : List PyData} (h : ys.Sublist xs) : wtA ys ≤ wtA xs := by
  induction h with
  | slnil => exact Nat.le_refl _
  | cons a _ ih => rw [wtA]; omega
  | cons_cons a _ ih => rw [wtA, wtA]; omega
theorem TameA.sub {k n w : Nat} {xs ys : List PyData} (h : TameA k n w xs) (s : ys.Sublist xs) : TameA k n w ys := ⟨fun x hx => h.nc x (s.mem hx), fun x hx => h.dp x (s.mem hx), Nat.le_trans (wtA_sub s) h.wt⟩
theorem wtA_rev (xs : List PyData) : wtA xs.reverse = wtA xs := by
  induction xs with
  | nil => rfl
  | cons x xs ih => rw [List.reverse_cons, wtA_app, ih, wtA, wtA, wtA]; omega
theorem TameA.rev {k n w : Nat} {xs : List PyData} (h : TameA k n w xs) : TameA k n w xs.reverse := ⟨fun x hx => h.nc x (List.mem_reverse.mp hx), fun x hx => h.dp x (List.mem_reverse.mp hx), by rw [wtA_rev]; exact h.wt⟩
theorem TameA.rep {k n w : Nat} {xs : List PyData} (h : TameA k n w xs) : ∀ m : Nat, TameA k n (m * w) (List.replicate m xs).flatten
  | 0 => .nil
  | m + 1 => by
    rw [List.replicate_succ, List.flatten_cons]
    exact (h.app (h.rep m)).mono (Nat.le_refl _) (Nat.le_refl _) (by rw [Nat.succ_mul]; omega)
theorem cut_sub (xs : List PyData) (lo hi : Option Int) : (PD.cutD xs lo hi).Sublist xs := by
  unfold PD.cutD
  exact (List.take_sublist _ _).trans (List.drop_sublist _ _)
end K16

namespace K16
open PySem PySem.Spec PyProof.Rows L2 PD
theorem cut_take (xs : List PyData) (j : Nat) : PD.cutD xs none (some (j : Int)) = xs.take j := by
  unfold PD.cutD
  rw [show HT.sIx xs.length xs.length (some (j : Int)) = min j xs.length from HT.sIx_nat xs.length xs.length j, HT.sIx_none, List.drop_zero, Nat.sub_zero]
  by_cases h : j ≤ xs.length
  · rw [Nat.min_eq_left h]
  · rw [Nat.min_eq_right (by omega), List.take_of_length_le (Nat.le_refl _), List.take_of_length_le (by omega)]
theorem cut_drop (xs : List PyData) (j : Nat) : PD.cutD xs (some (j : Int)) none = xs.drop j := by
  unfold PD.cutD
  rw [show HT.sIx xs.length 0 (some (j : Int)) = min j xs.length from HT.sIx_nat xs.length 0 j, HT.sIx_none]
  by_cases h : j ≤ xs.length
  · rw [Nat.min_eq_left h]
    exact List.take_of_length_le (by rw [List.length_drop]; exact Nat.le_refl _)
  · rw [Nat.min_eq_right (by omega), List.drop_of_length_le (Nat.le_refl _), List.drop_of_length_le (by omega)]; simp
theorem pot_ol {p : Sl} (h : Pot p) : ∃ zs, p = .ol zs := by obtain ⟨a, b, rfl, _⟩ := h; exact ⟨_, rfl⟩
theorem draw_at {S S' : Sls} {fr : Sls → Res (List PyData × Sls)} {p0 p : Sl} {many : Int} (hS : S[0]? = some p0) (h0 : Pot p0) (hf : fr S = .ok ([.int many], S')) (hS' : S'[0]? = some p) (hp : Pot p) (h1 : 1 ≤ many) (h2 : many < 1073741824) :
    ∃ (r : Int) (p' : Sl), eCallR 0 m__law_draw fr S = .ok (.d (.int r), S'.set 0 p') ∧ 0 ≤ r ∧ r < many ∧ Pot p' := by
  obtain ⟨r, p', e, r0, r1, hp'⟩ := ev_draw hp h1 h2
  obtain ⟨z0, rfl⟩ := pot_ol h0
  obtain ⟨z1, rfl⟩ := pot_ol hp
  obtain ⟨z2, rfl⟩ := pot_ol hp'
  exact ⟨r, .ol z2, by simp [hS, hf, hS', e], r0, r1, hp'⟩
theorem pick_at {S S' : Sls} {fr : Sls → Res (List PyData × Sls)} {p0 p : Sl} {xs : List PyData} (hS : S[0]? = some p0) (h0 : Pot p0) (hf : fr S = .ok ([.list xs], S')) (hS' : S'[0]? = some p) (hp : Pot p) (h1 : xs ≠ []) (h2 : xs.length < 1073741824) :
    ∃ (x : PyData) (p' : Sl), eCallR 0 m__law_pick fr S = .ok (.d x, S'.set 0 p') ∧ x ∈ xs ∧ Pot p' := by
  obtain ⟨r, p', e, r0, hp'⟩ := ev_pick hp h1 h2
  obtain ⟨z0, rfl⟩ := pot_ol h0
  obtain ⟨z1, rfl⟩ := pot_ol hp
  obtain ⟨z2, rfl⟩ := pot_ol hp'
  exact ⟨r, .ol z2, by simp [hS, hf, hS', e], r0, hp'⟩
theorem wt_ge (x : PyData) : 20 ≤ wt x := by cases x <;> simp [K16.wt]
theorem wtA_len22 : ∀ xs : List PyData, 22 * xs.length ≤ wtA xs
  | [] => Nat.le_refl _
  | x :: xs => by rw [wtA, List.length_cons]; have := wtA_len22 xs; have := wt_ge x; omega
theorem tame_atom {k D W : Nat} {d : PyData} (h : nice k d = true) (h0 : d.depth = 0) (hw : wt d = 20) (hW : 20 ≤ W) : Tame k D W d := ⟨h, by omega, by omega⟩
/-- what a bending gives -/
def Gives (r : Sl) (y : PyData) : Prop := r = .d y ∨ ∃ ys, r = .ol ys ∧ y = .list ys
theorem dNeg1 : dNeg (.int 1) = .ok (.d (.int (-1))) := rfl
theorem add_list {xs ys : List PyData} (h : xs.length + ys.length ≤ 1000000) : dAdd (.list xs) (.list ys) = .ok (.ol (xs ++ ys)) := by
  show (if xs.length + ys.length ≤ sizeLine then Res.ok (Sl.ol (xs ++ ys)) else .bad) = _
  rw [if_pos (line_of h)]
theorem add_tup {xs ys : List PyData} (h : xs.length + ys.length ≤ 1000000) : dAdd (.tuple xs) (.tuple ys) = .ok (.d (.tuple (xs ++ ys))) := by
  show (if xs.length + ys.length ≤ sizeLine then Res.ok (Sl.d (.tuple (xs ++ ys))) else .bad) = _
  rw [if_pos (line_of h)]
theorem mul_list {xs : List PyData} (h : xs.length ≤ 1000) : dMul (.list xs) (.int 5) = .ok (.ol (List.replicate 5 xs).flatten) := by
  show (if 0 ≤ (5 : Int) ∧ (5 : Int) ≤ 1000 ∧ xs.length * (5 : Int).toNat ≤ sizeLine then Res.ok (Sl.ol (List.replicate (5 : Int).toNat xs).flatten) else .bad) = _
  rw [if_pos ⟨by decide, by decide, line_of (by show xs.length * 5 ≤ 1000000; omega)⟩]; rfl
theorem mul_tup {xs : List PyData} (h : xs.length ≤ 1000) : dMul (.tuple xs) (.int 5) = .ok (.d (.tuple (List.replicate 5 xs).flatten)) := by
  show (if 2 ≤ (5 : Int) ∧ (5 : Int) ≤ 1000 ∧ xs.length ≤ 1000 then Res.ok (Sl.d (.tuple (List.replicate (5 : Int).toNat xs).flatten)) else .bad) = _
  rw [if_pos ⟨by decide, by decide, h⟩]; rfl
def B1 : Sls → Res (Fl × Sls) :=
  (sSeq (sSet 2 (eIf (ofE (eIsi [.tuple] (eVar 1))) (eCall dList (aCons (eVar 1) aNil)) (eCall dTup (aCons (eVar 1) aNil))))
  (sRet (eCallR 0 m__law_pick (aCons (dm (eLst (aCons (dm (eSl dSl (eVar 1) pNo (pInt (dm (eUn dNeg (eC (.int 1))))))) (aCons (dm (eBin dAdd (eVar 1) (dm (eSl dSl (eVar 1) (pInt (dm (eUn dNeg (eC (.int 1))))) pNo)))) (aCons (eVar 2) (aCons (eC .none) (aCons (dm (eUn dRev (eVar 1))) (aCons (dm (eBin dMul (eVar 1) (eC (.int 5)))) (aCons (dm eNewK) aNil))))))))) aNil))))
theorem cut_len (xs : List PyData) (lo hi : Option Int) : (PD.cutD xs lo hi).length ≤ xs.length := (cut_sub xs lo hi).length_le
theorem ev_B1 {p : Sl} (hp : Pot p) {k D W : Nat} {d : PyData} (h : Tame k D W d) (hW : W ≤ 20000) (hc : (∃ xs, d = .list xs) ∨ ∃ xs, d = .tuple xs) :
    ∃ y p' S', B1 [p, .d d, .un, .un, .un] = .ok (.ret (.d y), S') ∧ S'[0]? = some p' ∧ Tame k D (5 * W + 100) y ∧ Pot p' := by
  rcases hc with ⟨xs, rfl⟩ | ⟨xs, rfl⟩
  · obtain ⟨n, w, rfl, rfl, hA⟩ := h.ofL
    have hl : xs.length ≤ 1000 := by have := wtA_len22 xs; have := hA.wt; omega
    have a1 := add_list (xs := xs) (ys := PD.cutD xs (some (-1)) none) (by have := cut_len xs (some (-1)) none; omega)
    have m1 := mul_list hl
    obtain ⟨y, p', e, hy, hp'⟩ := pick_at (S := [p, .d (.list xs), .d (.tuple xs), .un, .un]) (S' := [p, .d (.list xs), .d (.tuple xs), .un, .un]) (p0 := p) (p := p)
      (fr := (aCons (dm (eLst (aCons (dm (eSl dSl (eVar 1) pNo (pInt (dm (eUn dNeg (eC (.int 1))))))) (aCons (dm (eBin dAdd (eVar 1) (dm (eSl dSl (eVar 1) (pInt (dm (eUn dNeg (eC (.int 1))))) pNo)))) (aCons (eVar 2) (aCons (eC .none) (aCons (dm (eUn dRev (eVar 1))) (aCons (dm (eBin dMul (eVar 1) (eC (.int 5)))) (aCons (dm eNewK) aNil))))))))) aNil))
      (xs := [.list (PD.cutD xs none (some (-1))), .list (xs ++ PD.cutD xs (some (-1)) none), .tuple xs, .none, .list xs.reverse, .list (List.replicate 5 xs).flatten, .dict []])
      rfl hp (by simp [dNeg1, a1, m1]) rfl hp (by simp) (by simp)
    refine ⟨y, p', _, by simp [B1, isTy, -ev_eCallR, e]; rfl, rfl, ?_, hp'⟩
    simp only [List.mem_cons, List.not_mem_nil, or_false] at hy
    rcases hy with rfl | rfl | rfl | rfl | rfl | rfl | rfl
    · exact (Tame.list (hA.sub (cut_sub _ _ _))).mono (Nat.le_refl _) (Nat.le_refl _) (by omega)
    · exact (Tame.list (hA.app (hA.sub (cut_sub _ _ _)))).mono (Nat.le_refl _) (Nat.le_refl _) (by omega)
    · exact (Tame.tuple hA).mono (Nat.le_refl _) (Nat.le_refl _) (by omega)
    · exact tame_atom rfl rfl rfl (by omega)
    · exact (Tame.list hA.rev).mono (Nat.le_refl _) (Nat.le_refl _) (by omega)
    · exact (Tame.list (hA.rep 5)).mono (Nat.le_refl _) (Nat.le_refl _) (by omega)
    · exact ⟨rfl, by show 1 ≤ n + 1; omega, by show 20 ≤ _; omega⟩
  · obtain ⟨n, w, rfl, rfl, hA⟩ := h.ofT
    have hl : xs.length ≤ 1000 := by have := wtA_len22 xs; have := hA.wt; omega
    have a1 := add_tup (xs := xs) (ys := PD.cutD xs (some (-1)) none) (by have := cut_len xs (some (-1)) none; omega)
    have m1 := mul_tup hl
    obtain ⟨y, p', e, hy, hp'⟩ := pick_at (S := [p, .d (.tuple xs), .ol xs, .un, .un]) (S' := [p, .d (.tuple xs), .d (.list xs), .un, .un]) (p0 := p) (p := p)
      (fr := (aCons (dm (eLst (aCons (dm (eSl dSl (eVar 1) pNo (pInt (dm (eUn dNeg (eC (.int 1))))))) (aCons (dm (eBin dAdd (eVar 1) (dm (eSl dSl (eVar 1) (pInt (dm (eUn dNeg (eC (.int 1))))) pNo)))) (aCons (eVar 2) (aCons (eC .none) (aCons (dm (eUn dRev (eVar 1))) (aCons (dm (eBin dMul (eVar 1) (eC (.int 5)))) (aCons (dm eNewK) aNil))))))))) aNil))
      (xs := [.tuple (PD.cutD xs none (some (-1))), .tuple (xs ++ PD.cutD xs (some (-1)) none), .list xs, .none, .tuple xs.reverse, .tuple (List.replicate 5 xs).flatten, .dict []])
      rfl hp (by simp [dNeg1, a1, m1]) rfl hp (by simp) (by simp)
    refine ⟨y, p', _, by simp [B1, isTy, -ev_eCallR, e]; rfl, rfl, ?_, hp'⟩
    simp only [List.mem_cons, List.not_mem_nil, or_false] at hy
    rcases hy with rfl | rfl | rfl | rfl | rfl | rfl | rfl
    · exact (Tame.tuple (hA.sub (cut_sub _ _ _))).mono (Nat.le_refl _) (Nat.le_refl _) (by omega)
    · exact (Tame.tuple (hA.app (hA.sub (cut_sub _ _ _)))).mono (Nat.le_refl _) (Nat.le_refl _) (by omega)
    · exact (Tame.list hA).mono (Nat.le_refl _) (Nat.le_refl _) (by omega)
    · exact tame_atom rfl rfl rfl (by omega)
    · exact (Tame.tuple hA.rev).mono (Nat.le_refl _) (Nat.le_refl _) (by omega)
    · exact (Tame.tuple (hA.rep 5)).mono (Nat.le_refl _) (Nat.le_refl _) (by omega)
    · exact ⟨rfl, by show 1 ≤ n + 1; omega, by show 20 ≤ _; omega⟩
end K16

namespace K16
open PySem PySem.Spec PyProof.Rows L2 PD
theorem str_of {d : PyData} (h : strOk d = true) : dStr [d] = .ok (.d (.str (strT d))) := by
  show (if strOk d = true then Res.ok (Sl.d (.str (strT d))) else .bad) = _
  rw [if_pos h]
theorem str_int {i : Int} (h : i.natAbs ≤ 20) : dStr [.int i] = .ok (.d (.str (PyData.int i).shown)) ∧ tameS (PyData.int i).shown = true := by
  refine ⟨str_of ?_, ?_⟩
  · show (showOk (.int i) && !(PyData.int i).hasDict) = true
    rw [show_ok (by rw [nice]; exact decide_eq_true h) (by show 20 ≤ _; decide) (by show 0 ≤ _; decide)]; rfl
  · obtain ⟨n, rfl⟩ := int_at h
    exact (small_int n).2
theorem str_bool (b : Bool) : dStr [.bool b] = .ok (.d (.str (PyData.bool b).shown)) ∧ tameS (PyData.bool b).shown = true := by
  cases b
  · exact ⟨str_of (by decide +kernel), by decide +kernel⟩
  · exact ⟨str_of (by decide +kernel), by decide +kernel⟩
theorem str_none : dStr [.none] = .ok (.d (.str "None")) ∧ tameS "None" = true := ⟨str_of (by decide +kernel), by decide +kernel⟩
theorem str_dict : dStr [.dict []] = .ok (.d (.str (PyData.dict []).shown)) ∧ tameS (PyData.dict []).shown = true := ⟨str_of rfl, by decide +kernel⟩
theorem tame_str {k D W : Nat} {x : Str} (h : tameS x = true) (hW : 20 ≤ W) : Tame k D W (.str x) := tame_atom (by rw [nice]; exact h) rfl rfl hW
theorem tame_int {k D W : Nat} {i : Int} (h : i.natAbs ≤ k) (hW : 20 ≤ W) : Tame k D W (.int i) := tame_atom (by rw [nice]; exact decide_eq_true h) rfl rfl hW
def FA : Sls → Res (List PyData × Sls) := (aCons (dm (eBin dAdd (dm (eLst (aCons (eC .none) (aCons (eC (.int 0)) (aCons (eC (.int 1)) (aCons (eC (.int 4)) (aCons (eC (.int 5)) (aCons (eC (.int 9)) (aCons (eC (.int 10)) (aCons (eC (.bool true)) (aCons (eC (.bool false)) (aCons (dm (eCall dStr (aCons (eVar 1) aNil))) aNil)))))))))))) (dm (eIf (ofE (eIsi [.int] (eVar 1))) (eLst (aCons (dm (eBin dAdd (eVar 1) (eC (.int 1)))) (aCons (dm (eBin dSub (eVar 1) (eC (.int 1)))) aNil))) (eLst aNil))))) aNil)
def FL (s : Str) (ys : List PyData) : List PyData := [.none, .int 0, .int 1, .int 4, .int 5, .int 9, .int 10, .bool true, .bool false, .str s] ++ ys
theorem FL_len {s : Str} {ys : List PyData} (h : ys.length ≤ 2) : dAdd (.list [.none, .int 0, .int 1, .int 4, .int 5, .int 9, .int 10, .bool true, .bool false, .str s]) (.list ys) = .ok (.ol (FL s ys)) :=
  add_list (by simp only [List.length_cons, List.length_nil]; omega)
theorem ev_atom {p : Sl} (hp : Pot p) {k D W n : Nat} {d : PyData} (hk : 10 ≤ k) (hW : 20 ≤ W) {s : Str} {ys : List PyData} (h1 : isTy .str d = false) (h2 : isTy .list d = false) (h3 : isTy .tuple d = false) (hs : tameS s = true) (hl : ys.length ≤ 2) (hy : ∀ y ∈ ys, Tame k D W y)
    (hf : FA [p, .d d, .un, .un, .un] = .ok ([.list (FL s ys)], [p, .d d, .un, .un, .un])) :
    ∃ r y p', m__law_bent (n + 1) [p, .d d] = .ok (r, [p', .un]) ∧ Gives r y ∧ Tame k D W y ∧ Pot p' := by
  obtain ⟨y, p', e, hm, hp'⟩ := pick_at (S := [p, .d d, .un, .un, .un]) (S' := [p, .d d, .un, .un, .un]) (p0 := p) (p := p) (fr := FA) (xs := FL s ys) rfl hp hf rfl hp (by simp [FL]) (by simp only [FL, List.length_append, List.length_cons, List.length_nil]; omega)
  unfold FA at e
  refine ⟨.d y, y, p', by simp [m__law_bent, mFn, b__law_bent, h1, h2, h3, -ev_eCallR, e, unS, outP], .inl rfl, ?_, hp'⟩
  simp only [FL, List.mem_append, List.mem_cons, List.not_mem_nil, or_false] at hm
  rcases hm with (rfl | rfl | rfl | rfl | rfl | rfl | rfl | rfl | rfl | rfl) | hm
  · exact tame_atom rfl rfl rfl hW
  · exact tame_int (by show 0 ≤ k; omega) hW
  · exact tame_int (by show 1 ≤ k; omega) hW
  · exact tame_int (by show 4 ≤ k; omega) hW
  · exact tame_int (by show 5 ≤ k; omega) hW
  · exact tame_int (by show 9 ≤ k; omega) hW
  · exact tame_int (by show 10 ≤ k; omega) hW
  · exact tame_atom rfl rfl rfl hW
  · exact tame_atom rfl rfl rfl hW
  · exact tame_str hs hW
  · exact hy y hm
theorem split_at {xs : List PyData} {j : Nat} (h : j < xs.length) : xs = xs.take j ++ xs[j] :: xs.drop (j + 1) := by
  rw [← List.drop_eq_getElem_cons h, List.take_append_drop]
def C3 : Sls → Res (Bool × Sls) := (tOrr (ofE (dm (eBin dEq (eLenO 1) (eC (.int 0))))) (ofE (dm (eBin dEq (dm (eCallR 0 m__law_draw (aCons (eC (.int 4)) aNil))) (eC (.int 0))))))
def R4 (m_rec : Mir) : Sls → Res (Fl × Sls) := (sSeq (sSet 3 (eCallR 0 m__law_draw (aCons (eLenO 1) aNil)))
  (sSeq (sSet 4 (eCallR 0 m_rec (aCons (dm (eIxO 1 (eVar 3))) aNil)))
  (sRet (eBin dAdd (dm (eBin dAdd (dm (eSl dSl (eVar 1) pNo (pInt (eVar 3)))) (dm (eIf (ofE (eIsi [.tuple] (eVar 1))) (lf (eTup (aCons (eVar 4) aNil))) (eLst (aCons (eVar 4) aNil)))))) (dm (eSl dSl (eVar 1) (pInt (dm (eBin dAdd (eVar 3) (eC (.int 1))))) pNo))))))
theorem bent_seq (m : Mir) {p : Sl} {d : PyData} (i1 : isTy .str d = false) (i2 : (isTy .list d || isTy .tuple d) = true) : b__law_bent m [p, .d d, .un, .un, .un] = sSeq (sIf C3 B1 sNil) (R4 m) [p, .d d, .un, .un, .un] := by
  unfold b__law_bent
  rw [ev_sSeq, ev_sIf]
  simp only [ev_ofE, ev_eIsi, ev_eVar, List.getElem?_cons_succ, List.getElem?_cons_zero, ev_bind, List.any_cons, List.any_nil, i1, Bool.or_false, ev_asBool, Bool.false_eq_true, if_false, ev_sNil]
  rw [ev_sSeq, ev_sIf]
  simp only [ev_tNo, ev_ofE, ev_eIsi, ev_eVar, List.getElem?_cons_succ, List.getElem?_cons_zero, ev_bind, List.any_cons, List.any_nil, i2, Bool.or_false, ev_asBool, Bool.not_true, Bool.false_eq_true, if_false, ev_sNil]
  rfl
theorem ev_C3 {p : Sl} (hp : Pot p) {d : PyData} {xs : List PyData} (hl : ∀ q : Sl, eLenO 1 [q, .d d, .un, .un, .un] = .ok (.int xs.length, [q, .d d, .un, .un, .un])) :
    ∃ b p', C3 [p, .d d, .un, .un, .un] = .ok (b, [p', .d d, .un, .un, .un]) ∧ Pot p' ∧ (b = false → xs ≠ []) := by
  by_cases h0 : xs = []
  · subst h0
    refine ⟨true, p, ?_, hp, fun z => nomatch z⟩
    unfold C3
    rw [ev_tOrr]
    simp only [ev_ofE, ev_dm, ev_eBin, hl, ev_bind, ev_eC, ev_eqI, ev_dm1, ev_asBool]
    rfl
  · have hne : ((xs.length : Int) == 0) = false := by
      have : xs.length ≠ 0 := fun z => h0 (List.eq_nil_of_length_eq_zero z)
      exact beq_eq_false_iff_ne.mpr (by omega)
    obtain ⟨r, p', e, r0, r1, hp'⟩ := draw_at (S := [p, .d d, .un, .un, .un]) (S' := [p, .d d, .un, .un, .un]) (many := 4) (fr := (aCons (eC (.int 4)) aNil)) rfl hp rfl rfl hp (by decide) (by decide)
    refine ⟨r == 0, p', ?_, hp', fun _ => h0⟩
    unfold C3
    rw [ev_tOrr]
    simp only [ev_ofE, ev_dm, ev_eBin, hl, ev_bind, ev_eC, ev_eqI, ev_dm1, ev_asBool, hne, Bool.false_eq_true, if_false, e]
    rfl
theorem ev_R4 {n k D W : Nat} {p : Sl} (hp : Pot p) {d : PyData} {xs : List PyData} (h0 : xs ≠ []) (hd : d = .list xs ∨ d = .tuple xs) (ht : Tame k D W d) (hW : W ≤ 20000)
    (ih : ∀ (x : PyData) (q : Sl) (W' : Nat), x ∈ xs → Pot q → 20 ≤ W' → W' + 22 ≤ W → Tame k D W' x → ∃ r y q', m__law_bent n [q, .d x] = .ok (r, [q', .un]) ∧ Gives r y ∧ Tame (k + 1) (x.depth) (5 * W' + 100) y ∧ Pot q') :
    ∃ r y S' p', R4 (m__law_bent n) [p, .d d, .un, .un, .un] = .ok (.ret r, S') ∧ S'[0]? = some p' ∧ Gives r y ∧ Tame (k + 1) D (5 * W + 100) y ∧ Pot p' := by
  have hl : ∀ q : Sl, eLenO 1 [q, .d d, .un, .un, .un] = .ok (.int xs.length, [q, .d d, .un, .un, .un]) := fun q => by rcases hd with rfl | rfl <;> rfl
  have hlen : 1 ≤ xs.length := by
    have : xs.length ≠ 0 := fun z => h0 (List.eq_nil_of_length_eq_zero z)
    omega
  obtain ⟨D', w', eD, eW, hA⟩ : ∃ D' w', D = D' + 1 ∧ W = 20 + w' ∧ TameA k D' w' xs := by
    rcases hd with rfl | rfl
    · exact ht.ofL
    · exact ht.ofT
  have h22 := wtA_len22 xs
  have hwt := hA.wt
  have hbig : xs.length ≤ 1000 := by omega
  obtain ⟨r, p1, e1, r0, r1, hp1⟩ := draw_at (S := [p, .d d, .un, .un, .un]) (S' := [p, .d d, .un, .un, .un]) (fr := (aCons (eLenO 1) aNil)) (many := xs.length) rfl hp (by rw [ev_aCons, hl]; rfl) rfl hp (by omega) (by omega)
  obtain ⟨j, rfl⟩ : ∃ j : Nat, r = (j : Int) := ⟨r.toNat, by omega⟩
  have hj : j < xs.length := by omega
  have hx : atI xs (j : Int) = some xs[j] := atI_nat (List.getElem?_eq_getElem hj)
  have hmem : xs[j] ∈ xs := List.getElem_mem hj
  have wsum : wtA xs = wtA (xs.take j) + (wt xs[j] + 2 + wtA (xs.drop (j + 1))) := by
    conv => lhs; rw [split_at hj]
    rw [wtA_app, wtA]
  have hge := wt_ge xs[j]
  obtain ⟨r2, y2, p2, e2, g2, t2, hp2⟩ := ih xs[j] p1 (wt xs[j]) hmem hp1 hge (by omega) ⟨hA.nc _ hmem, Nat.le_trans (hA.dp _ hmem) (by omega), Nat.le_refl _⟩
  obtain ⟨z1, rfl⟩ := pot_ol hp1
  obtain ⟨z2, rfl⟩ := pot_ol hp2
  have tY : TameA (k + 1) D' (5 * wt xs[j] + 102) [y2] := (TameA.one t2).mono (Nat.le_refl _) (hA.dp _ hmem) (by omega)
  have tL : TameA (k + 1) D' (wtA (xs.take j)) (xs.take j) := ⟨fun x hx => nice_mono (by omega) x (hA.nc x (List.mem_of_mem_take hx)), fun x hx => hA.dp x (List.mem_of_mem_take hx), Nat.le_refl _⟩
  have tR : TameA (k + 1) D' (wtA (xs.drop (j + 1))) (xs.drop (j + 1)) := ⟨fun x hx => nice_mono (by omega) x (hA.nc x (List.mem_of_mem_drop hx)), fun x hx => hA.dp x (List.mem_of_mem_drop hx), Nat.le_refl _⟩
  have tAll : TameA (k + 1) D' (wtA (xs.take j) + (5 * wt xs[j] + 102) + wtA (xs.drop (j + 1))) (xs.take j ++ [y2] ++ xs.drop (j + 1)) := (tL.app tY).app tR
  have lt : (xs.take j).length ≤ 1000 := by rw [List.length_take]; omega
  have ld : (xs.drop (j + 1)).length ≤ 1000 := by rw [List.length_drop]; omega
  have cd : PD.cutD xs (some ((j : Int) + 1)) none = xs.drop (j + 1) := by
    have := cut_drop xs (j + 1)
    rwa [show (((j + 1 : Nat) : Int)) = (j : Int) + 1 by omega] at this
  have ct := cut_take xs j
  rcases hd with rfl | rfl
  · have a1 := add_list (xs := xs.take j) (ys := [y2]) (by simp only [List.length_cons, List.length_nil]; omega)
    have a2 := add_list (xs := xs.take j ++ [y2]) (ys := xs.drop (j + 1)) (by simp only [List.length_append, List.length_cons, List.length_nil]; omega)
    refine ⟨.ol (xs.take j ++ [y2] ++ xs.drop (j + 1)), .list (xs.take j ++ [y2] ++ xs.drop (j + 1)), ?_⟩
    rcases g2 with rfl | ⟨ys, rfl, rfl⟩
    · exact ⟨[.ol z2, .d (.list xs), .un, .d (.int j), .d y2], .ol z2, by unfold R4; rw [ev_sSeq, ev_sSet, e1]; simp [hx, e2, isTy, ct, cd, a1, a2, -List.append_assoc], rfl, .inr ⟨_, rfl, rfl⟩, (Tame.list tAll).mono (Nat.le_refl _) (by omega) (by omega), hp2⟩
    · exact ⟨[.ol z2, .d (.list xs), .un, .d (.int j), .d (.list ys)], .ol z2, by unfold R4; rw [ev_sSeq, ev_sSet, e1]; simp [hx, e2, isTy, ct, cd, a1, a2, -List.append_assoc], rfl, .inr ⟨_, rfl, rfl⟩, (Tame.list tAll).mono (Nat.le_refl _) (by omega) (by omega), hp2⟩
  · have a1 := add_tup (xs := xs.take j) (ys := [y2]) (by simp only [List.length_cons, List.length_nil]; omega)
    have a2 := add_tup (xs := xs.take j ++ [y2]) (ys := xs.drop (j + 1)) (by simp only [List.length_append, List.length_cons, List.length_nil]; omega)
    refine ⟨.d (.tuple (xs.take j ++ [y2] ++ xs.drop (j + 1))), .tuple (xs.take j ++ [y2] ++ xs.drop (j + 1)), ?_⟩
    rcases g2 with rfl | ⟨ys, rfl, rfl⟩
    · exact ⟨[.ol z2, .d (.tuple xs), .un, .d (.int j), .d y2], .ol z2, by unfold R4; rw [ev_sSeq, ev_sSet, e1]; simp [hx, e2, isTy, ct, cd, a1, a2, -List.append_assoc], rfl, .inl rfl, (Tame.tuple tAll).mono (Nat.le_refl _) (by omega) (by omega), hp2⟩
    · exact ⟨[.ol z2, .d (.tuple xs), .un, .d (.int j), .d (.list ys)], .ol z2, by unfold R4; rw [ev_sSeq, ev_sSet, e1]; simp [hx, e2, isTy, ct, cd, a1, a2, -List.append_assoc], rfl, .inl rfl, (Tame.tuple tAll).mono (Nat.le_refl _) (by omega) (by omega), hp2⟩
theorem bent_fin {m : Mir} {n : Nat} {as : Sls} {r : Sl} {S' : Sls} {p' : Sl} (e : b__law_bent (m__law_bent n) (as ++ [.un, .un, .un]) = .ok (.ret r, S')) (h : S'[0]? = some p') : m__law_bent (n + 1) as = .ok (r, [p', .un]) := by
  have hg : S'.getD 0 .un = p' := by rw [List.getD_eq_getElem?_getD, h]; rfl
  show (b__law_bent (m__law_bent n) (as ++ unS 3)).bind _ = _
  have : unS 3 = [.un, .un, .un] := rfl
  rw [this, e]
  show Res.ok (r, outP [0] S' 2) = _
  have : outP [0] S' 2 = [S'.getD 0 .un, .un] := rfl
  rw [this, hg]
theorem ev_bent : ∀ (n : Nat) {d : PyData} {k D W : Nat} {p : Sl}, Pot p → Tame k D W d → 10 ≤ k → k + 1 ≤ 20 → d.depth < n → 20 ≤ W → W ≤ 20000 →
    ∃ r y p', m__law_bent n [p, .d d] = .ok (r, [p', .un]) ∧ Gives r y ∧ Tame (k + 1) D (5 * W + 100) y ∧ Pot p'
  | 0, _, _, _, _, _, _, _, _, _, h, _, _ => absurd h (Nat.not_lt_zero _)
  | n + 1, d, k, D, W, p, hp, ht, hk, hk2, hd, hW0, hW => by
    have cont : ((∃ xs, d = .list xs) ∨ ∃ xs, d = .tuple xs) → ∃ r y p', m__law_bent (n + 1) [p, .d d] = .ok (r, [p', .un]) ∧ Gives r y ∧ Tame (k + 1) D (5 * W + 100) y ∧ Pot p' := by
      intro hc
      obtain ⟨xs, hxs⟩ : ∃ xs, d = .list xs ∨ d = .tuple xs := by
        rcases hc with ⟨xs, e⟩ | ⟨xs, e⟩
        · exact ⟨xs, .inl e⟩
        · exact ⟨xs, .inr e⟩
      have i1 : isTy .str d = false := by rcases hxs with rfl | rfl <;> rfl
      have i2 : (isTy .list d || isTy .tuple d) = true := by rcases hxs with rfl | rfl <;> rfl
      have hlen : ∀ q : Sl, eLenO 1 [q, .d d, .un, .un, .un] = .ok (.int xs.length, [q, .d d, .un, .un, .un]) := fun q => by rcases hxs with rfl | rfl <;> rfl
      obtain ⟨b, q, e1, hq, hb⟩ := ev_C3 hp hlen
      have e0 := bent_seq (m__law_bent n) (p := p) i1 i2
      cases b with
      | true =>
        obtain ⟨y, p', S', e, hS, hy, hp'⟩ := ev_B1 hq ht hW hc
        refine ⟨.d y, y, p', bent_fin (m := m__law_bent n) (as := [p, .d d]) (r := .d y) (S' := S') ?_ hS, .inl rfl, hy.mono (by omega) (Nat.le_refl _) (Nat.le_refl _), hp'⟩
        show b__law_bent (m__law_bent n) [p, .d d, .un, .un, .un] = _
        rw [e0, ev_sSeq, ev_sIf, e1]
        simp only [ev_bind, if_true, e]
      | false =>
        obtain ⟨r, y, S', p', e, hS, hg, hy, hp'⟩ := ev_R4 (n := n) hq (hb rfl) hxs ht hW (fun x q' W' hx hq' h20 hW' htx => by
          have hdx : x.depth < n := by
            rcases hxs with rfl | rfl
            · rw [PyData.depth] at hd
              exact Nat.lt_of_le_of_lt (depthA_le.mp (Nat.le_refl _) x hx) (by omega)
            · rw [PyData.depth] at hd
              exact Nat.lt_of_le_of_lt (depthA_le.mp (Nat.le_refl _) x hx) (by omega)
          exact ev_bent n hq' ⟨htx.nc, Nat.le_refl _, htx.wt⟩ hk hk2 hdx h20 (by omega))
        refine ⟨r, y, p', bent_fin (m := m__law_bent n) (as := [p, .d d]) (r := r) (S' := S') ?_ hS, hg, hy, hp'⟩
        show b__law_bent (m__law_bent n) [p, .d d, .un, .un, .un] = _
        rw [e0, ev_sSeq, ev_sIf, e1]
        simp only [ev_bind, Bool.false_eq_true, if_false, ev_sNil, e]
    cases d with
    | str x =>
      obtain ⟨y, p', e, hm, hp'⟩ := pick_at (S := [p, .d (.str x), .un, .un, .un]) (S' := [p, .d (.str x), .un, .un, .un]) (p0 := p) (p := p) (fr := (aCons (dm (eLst (aCons (eC (.str "Call")) (aCons (eC (.str "")) (aCons (eC .none) (aCons (eC (.str "call")) aNil)))))) aNil)) (xs := [.str "Call", .str "", .none, .str "call"]) rfl hp (by simp) rfl hp (by simp) (by simp)
      refine ⟨.d y, y, p', by simp [m__law_bent, mFn, b__law_bent, isTy, -ev_eCallR, e, unS, outP], .inl rfl, ?_, hp'⟩
      simp only [List.mem_cons, List.not_mem_nil, or_false] at hm
      rcases hm with rfl | rfl | rfl | rfl
      · exact tame_str (by decide +kernel) (by omega)
      · exact tame_str (by decide +kernel) (by omega)
      · exact tame_atom rfl rfl rfl (by omega)
      · exact tame_str (by decide +kernel) (by omega)
    | int i =>
      have hi : i.natAbs ≤ k := by have h := ht.nc; rw [nice] at h; exact of_decide_eq_true h
      obtain ⟨s1, s2⟩ := str_int (i := i) (by omega)
      have fl := FL_len (s := (PyData.int i).shown) (ys := [.int (i + 1), .int (i - 1)]) (by simp)
      exact ev_atom hp (D := D) (by omega) (by omega) rfl rfl rfl s2 (ys := [.int (i + 1), .int (i - 1)]) (by simp) (fun y hy => by
        simp only [List.mem_cons, List.not_mem_nil, or_false] at hy
        rcases hy with rfl | rfl
        · exact tame_int (by omega) (by omega)
        · exact tame_int (by omega) (by omega)) (by simp [FA, isTy, s1, fl])
    | bool b =>
      obtain ⟨s1, s2⟩ := str_bool b
      have fl := FL_len (s := (PyData.bool b).shown) (ys := [.int (bI b + 1), .int (bI b - 1)]) (by simp)
      exact ev_atom hp (D := D) (by omega) (by omega) rfl rfl rfl s2 (ys := [.int (bI b + 1), .int (bI b - 1)]) (by simp) (fun y hy => by
        simp only [List.mem_cons, List.not_mem_nil, or_false] at hy
        rcases hy with rfl | rfl
        · exact tame_int (by cases b <;> simp [bI] <;> omega) (by omega)
        · exact tame_int (by cases b <;> simp [bI] <;> omega) (by omega)) (by simp [FA, isTy, s1, fl])
    | none =>
      obtain ⟨s1, s2⟩ := str_none
      have fl := FL_len (s := "None") (ys := []) (by simp)
      exact ev_atom hp (D := D) (by omega) (by omega) rfl rfl rfl s2 (ys := []) (by simp) (fun y hy => (nomatch hy)) (by simp [FA, isTy, s1, fl])
    | dict kvs =>
      have : kvs = [] := by have h := ht.nc; rw [nice] at h; simpa using h
      subst this
      obtain ⟨s1, s2⟩ := str_dict
      have fl := FL_len (s := (PyData.dict []).shown) (ys := []) (by simp)
      exact ev_atom hp (D := D) (by omega) (by omega) rfl rfl rfl s2 (ys := []) (by simp) (fun y hy => (nomatch hy)) (by simp [FA, isTy, s1, fl])
    | list xs => exact cont (.inl ⟨xs, rfl⟩)
    | tuple xs => exact cont (.inr ⟨xs, rfl⟩)
end K16

namespace K16
open PySem PySem.Spec PyProof.Rows L2 PD
theorem tame_pair {a b : Int} (ha : a.natAbs ≤ 10) (hb : b.natAbs ≤ 10) : Tame 10 1 64 (.tuple [.int a, .int b]) :=
  Tame.tuple (n := 0) (w := 44) (TameA.app (w := 22) (v := 22) (TameA.one (tame_int ha (Nat.le_refl 20))) (TameA.one (tame_int hb (Nat.le_refl 20))))
theorem tameA_ints {k : Nat} {ys : List PyData} {n : Nat} (h : ∀ y ∈ ys, ∃ i : Int, y = .int i ∧ i.natAbs ≤ k) (hl : ys.length ≤ n) : TameA k 0 (22 * n) ys := by
  refine ⟨fun y hy => ?_, fun y hy => ?_, ?_⟩
  · obtain ⟨i, rfl, hi⟩ := h y hy
    rw [nice]; exact decide_eq_true hi
  · obtain ⟨i, rfl, hi⟩ := h y hy
    exact Nat.le_refl _
  · have : wtA ys = 22 * ys.length := by
      clear hl
      induction ys with
      | nil => rfl
      | cons y ys ih =>
        obtain ⟨i, rfl, _⟩ := h y (by simp)
        rw [wtA, ih fun z hz => h z (by simp [hz]), List.length_cons, K16.wt]
        · omega
        · intro _ z; cases z
        · intro _ z; cases z
    omega
theorem tameA_pairs {ys : List PyData} {n : Nat} (h : ∀ y ∈ ys, ∃ i j : Int, y = .tuple [.int i, .int j] ∧ i.natAbs ≤ 10 ∧ j.natAbs ≤ 10) (hl : ys.length ≤ n) : TameA 10 1 (66 * n) ys := by
  refine ⟨fun y hy => ?_, fun y hy => ?_, ?_⟩
  · obtain ⟨i, j, rfl, hi, hj⟩ := h y hy
    exact (tame_pair hi hj).nc
  · obtain ⟨i, j, rfl, hi, hj⟩ := h y hy
    exact (tame_pair hi hj).dp
  · have : wtA ys ≤ 66 * ys.length := by
      clear hl
      induction ys with
      | nil => exact Nat.le_refl _
      | cons y ys ih =>
        obtain ⟨i, j, rfl, hi, hj⟩ := h y (by simp)
        have := ih fun z hz => h z (by simp [hz])
        have := (tame_pair hi hj).wt
        rw [wtA, List.length_cons]; omega
    omega
/-! people -/
def L1b : Sls → Res (Fl × Sls) := (sSeq (sSet 7 (eCallR 0 m__law_pick (aCons (dm (eLst (aCons (eC (.int 1)) (aCons (eC (.int 2)) (aCons (eC (.int 3)) (aCons (dm (eCallR 0 m__law_draw (aCons (eC (.int 10)) aNil))) aNil)))))) aNil)))
  (sDrop (eMt 5 oApp (aCons (eTup (aCons (dm (eCallR 0 m__law_pick (aCons (dm (eLst (aCons (eC (.int 0)) (aCons (eC (.int 0)) (aCons (eC (.int 0)) (aCons (dm (eCallR 0 m__law_draw (aCons (dm (eBin dAdd (eVar 7) (eC (.int 1)))) aNil))) aNil)))))) aNil))) (aCons (eVar 7) aNil))) aNil))))
def Fr (p mq many : Sl) (papers people : List PyData) (a6 a7 a8 a9 a10 a11 a12 : Sl) : Sls := [p, .d (.int 5), mq, many, .ol papers, .ol people, a6, a7, a8, a9, a10, a11, a12]
theorem app_ok {xs : List PyData} {y : PyData} (h : xs.length < 1000) : oApp xs [y] = .ok (.none, xs ++ [y]) := by
  show (if xs.length < sizeLine then Res.ok (PyData.none, xs ++ [y]) else .bad) = _
  rw [if_pos (Nat.lt_of_lt_of_le h (line_of (by decide)))]
theorem ext_ok {xs ys : List PyData} (h : xs.length + ys.length ≤ 1000) : oExt xs [.list ys] = .ok (.none, xs ++ ys) := by
  show (if xs.length + ys.length ≤ sizeLine then Res.ok (PyData.none, xs ++ ys) else .bad) = _
  rw [if_pos (line_of (by omega))]
theorem ev_L1b {p : Sl} (hp : Pot p) {mq many a6 a7 a8 a9 a10 a11 a12 : Sl} {papers zs : List PyData} (hz : zs.length < 1000) :
    ∃ p' l a, L1b (Fr p mq many papers zs a6 a7 a8 a9 a10 a11 a12) = .ok (.next, Fr p' mq many papers (zs ++ [.tuple [.int a, .int l]]) a6 (.d (.int l)) a8 a9 a10 a11 a12) ∧ Pot p' ∧ l.natAbs ≤ 10 ∧ a.natAbs ≤ 10 := by
  unfold Fr
  obtain ⟨r, p1, e1, r0, r1, hp1⟩ := draw_at (S := [p, .d (.int 5), mq, many, .ol papers, .ol zs, a6, a7, a8, a9, a10, a11, a12]) (S' := [p, .d (.int 5), mq, many, .ol papers, .ol zs, a6, a7, a8, a9, a10, a11, a12]) (many := 10) (fr := (aCons (eC (.int 10)) aNil)) rfl hp rfl rfl hp (by decide) (by decide)
  obtain ⟨x, p2, e2, hx, hp2⟩ := pick_at (S := [p, .d (.int 5), mq, many, .ol papers, .ol zs, a6, a7, a8, a9, a10, a11, a12]) (S' := [p1, .d (.int 5), mq, many, .ol papers, .ol zs, a6, a7, a8, a9, a10, a11, a12])
    (fr := (aCons (dm (eLst (aCons (eC (.int 1)) (aCons (eC (.int 2)) (aCons (eC (.int 3)) (aCons (dm (eCallR 0 m__law_draw (aCons (eC (.int 10)) aNil))) aNil)))))) aNil)) (xs := [.int 1, .int 2, .int 3, .int r]) rfl hp (by simp [-ev_eCallR, e1]) rfl hp1 (by simp) (by simp)
  obtain ⟨l, rfl, l0, l9⟩ : ∃ l : Int, x = .int l ∧ 0 ≤ l ∧ l ≤ 9 := by
    simp only [List.mem_cons, List.not_mem_nil, or_false] at hx
    rcases hx with rfl | rfl | rfl | rfl
    · exact ⟨1, rfl, by decide, by decide⟩
    · exact ⟨2, rfl, by decide, by decide⟩
    · exact ⟨3, rfl, by decide, by decide⟩
    · exact ⟨r, rfl, r0, by omega⟩
  obtain ⟨q, p3, e3, q0, q1, hp3⟩ := draw_at (S := [p2, .d (.int 5), mq, many, .ol papers, .ol zs, a6, .d (.int l), a8, a9, a10, a11, a12]) (S' := [p2, .d (.int 5), mq, many, .ol papers, .ol zs, a6, .d (.int l), a8, a9, a10, a11, a12]) (many := l + 1) (fr := (aCons (dm (eBin dAdd (eVar 7) (eC (.int 1)))) aNil)) rfl hp2 rfl rfl hp2 (by omega) (by omega)
  obtain ⟨y, p4, e4, hy, hp4⟩ := pick_at (S := [p2, .d (.int 5), mq, many, .ol papers, .ol zs, a6, .d (.int l), a8, a9, a10, a11, a12]) (S' := [p3, .d (.int 5), mq, many, .ol papers, .ol zs, a6, .d (.int l), a8, a9, a10, a11, a12])
    (fr := (aCons (dm (eLst (aCons (eC (.int 0)) (aCons (eC (.int 0)) (aCons (eC (.int 0)) (aCons (dm (eCallR 0 m__law_draw (aCons (dm (eBin dAdd (eVar 7) (eC (.int 1)))) aNil))) aNil)))))) aNil)) (xs := [.int 0, .int 0, .int 0, .int q]) rfl hp2 (by simp only [ev_aCons, ev_dm, ev_eLst, ev_eC, ev_bind, e3, ev_aNil, ev_dm1, ev_dm2]; rfl) rfl hp3 (by simp) (by simp)
  obtain ⟨a, rfl, a0, a1⟩ : ∃ l : Int, y = .int l ∧ 0 ≤ l ∧ l ≤ 9 := by
    simp only [List.mem_cons, List.not_mem_nil, or_false] at hy
    rcases hy with rfl | rfl | rfl | rfl
    · exact ⟨0, rfl, by decide, by decide⟩
    · exact ⟨0, rfl, by decide, by decide⟩
    · exact ⟨0, rfl, by decide, by decide⟩
    · exact ⟨q, rfl, q0, by omega⟩
  refine ⟨p4, l, a, ?_, hp4, by omega, by omega⟩
  have ap := app_ok (y := .tuple [.int a, .int l]) hz
  unfold L1b
  rw [ev_sSeq, ev_sSet, e2]
  simp [-ev_eCallR, e4, ap]
end K16

namespace K16
open PySem PySem.Spec PyProof.Rows L2 PD
theorem iA_ok {o : List PyData → Res (List PyData)} {fr : Sls → Res (List PyData × Sls)} {S S' : Sls} {xs ys : List PyData} (h : fr S = .ok (xs, S')) (h2 : o xs = .ok ys) : iA o fr S = .ok (ys, S') := by
  rw [ev_iA, h, ev_bind, h2]; rfl
/-! papers -/
def L2b : Sls → Res (Fl × Sls) := (sSeq (sSet 9 (eCall dTup (aCons (dm (eLc (iA rng1 (aCons (eVar 3) aNil)) [6] (wName 6) (ofE (dm (eBin dEq (dm (eCallR 0 m__law_draw (aCons (eC (.int 5)) aNil))) (eC (.int 0))))) (eVar 6))) aNil)))
  (sDrop (eMt 4 oApp (aCons (eTup (aCons (dm (eCallR 0 m__law_pick (aCons (dm (eLst (aCons (eC (.int 1)) (aCons (eC (.int 1)) (aCons (eC (.int 2)) (aCons (dm (eBin dAdd (eC (.int 1)) (dm (eCallR 0 m__law_draw (aCons (eC (.int 4)) aNil))))) aNil)))))) aNil))) (aCons (eVar 9) aNil))) aNil))))
theorem ev_L2b {p : Sl} (hp : Pot p) {m : Nat} (hm : m ≤ 5) {mq a6 a7 a8 a9 a10 a11 a12 : Sl} {zs people : List PyData} (hz : zs.length < 1000) :
    ∃ p' x a9', L2b (Fr p mq (.d (.int m)) zs people a6 a7 a8 a9 a10 a11 a12) = .ok (.next, Fr p' mq (.d (.int m)) (zs ++ [x]) people a6 a7 a8 a9' a10 a11 a12) ∧ Pot p' ∧ Tame 10 2 200 x := by
  have hrng := rng1_nat (n := m) (by omega)
  have hfi : iA rng1 (aCons (eVar 3) aNil) (Fr p mq (.d (.int m)) zs people a6 a7 a8 a9 a10 a11 a12) = .ok (rngD 0 m, Fr p mq (.d (.int m)) zs people a6 a7 a8 a9 a10 a11 a12) := iA_ok (xs := [.int m]) rfl hrng
  obtain ⟨ys, S', e1, ⟨p1, hS', hp1⟩, hl, hy⟩ := eLc_inv (fi := iA rng1 (aCons (eVar 3) aNil)) (vs := [6]) (w := wName 6) (ft := (ofE (dm (eBin dEq (dm (eCallR 0 m__law_draw (aCons (eC (.int 5)) aNil))) (eC (.int 0)))))) (fe := eVar 6)
    (S := Fr p mq (.d (.int m)) zs people a6 a7 a8 a9 a10 a11 a12) (S1 := Fr p mq (.d (.int m)) zs people a6 a7 a8 a9 a10 a11 a12) (xs := rngD 0 m)
    (fun S => ∃ q, S = Fr q mq (.d (.int m)) zs people .un a7 a8 a9 a10 a11 a12 ∧ Pot q) (fun y => ∃ i : Int, y = .int i ∧ i.natAbs ≤ 10)
    hfi (by rw [rng_len]; exact line_of (by omega)) ⟨p, rfl, hp⟩ (fun d hd S ⟨q, hS, hq⟩ => by
      subst hS
      obtain ⟨i, hi, rfl⟩ := mem_rng hd
      generalize hv : (0 + (i : Int)) = v
      obtain ⟨r, q', e, r0, r1, hq'⟩ := draw_at (S := [q, .d (.int 5), mq, .d (.int m), .ol zs, .ol people, .d (.int v), a7, a8, a9, a10, a11, a12]) (S' := [q, .d (.int 5), mq, .d (.int m), .ol zs, .ol people, .d (.int v), a7, a8, a9, a10, a11, a12]) (many := 5) (fr := (aCons (eC (.int 5)) aNil)) rfl hq rfl rfl hq (by decide) (by decide)
      refine ⟨_, r == 0, [q', .d (.int 5), mq, .d (.int m), .ol zs, .ol people, .d (.int v), a7, a8, a9, a10, a11, a12], rfl, ?_, fun _ => ⟨q', rfl, hq'⟩, fun _ => ⟨.int v, _, rfl, ⟨_, rfl, by omega⟩, q', rfl, hq'⟩⟩
      show ofE (dm (eBin dEq (dm (eCallR 0 m__law_draw (aCons (eC (.int 5)) aNil))) (eC (.int 0)))) [q, .d (.int 5), mq, .d (.int m), .ol zs, .ol people, .d (.int v), a7, a8, a9, a10, a11, a12] = _
      simp only [ev_ofE, ev_dm, ev_eBin, e, ev_bind, ev_dm1, ev_eC, ev_eqI, ev_asBool]
      rfl)
  subst hS'
  have hback : backS (Fr p mq (.d (.int m)) zs people a6 a7 a8 a9 a10 a11 a12) (Fr p1 mq (.d (.int m)) zs people .un a7 a8 a9 a10 a11 a12) [6] = Fr p1 mq (.d (.int m)) zs people a6 a7 a8 a9 a10 a11 a12 := rfl
  rw [hback] at e1
  obtain ⟨r, p2, e2, r0, r1, hp2⟩ := draw_at (S := Fr p1 mq (.d (.int m)) zs people a6 a7 a8 (.d (.tuple ys)) a10 a11 a12) (S' := Fr p1 mq (.d (.int m)) zs people a6 a7 a8 (.d (.tuple ys)) a10 a11 a12) (many := 4) (fr := (aCons (eC (.int 4)) aNil)) rfl hp1 rfl rfl hp1 (by decide) (by decide)
  obtain ⟨x, p3, e3, hx, hp3⟩ := pick_at (S := Fr p1 mq (.d (.int m)) zs people a6 a7 a8 (.d (.tuple ys)) a10 a11 a12) (S' := Fr p2 mq (.d (.int m)) zs people a6 a7 a8 (.d (.tuple ys)) a10 a11 a12)
    (fr := (aCons (dm (eLst (aCons (eC (.int 1)) (aCons (eC (.int 1)) (aCons (eC (.int 2)) (aCons (dm (eBin dAdd (eC (.int 1)) (dm (eCallR 0 m__law_draw (aCons (eC (.int 4)) aNil))))) aNil)))))) aNil)) (xs := [.int 1, .int 1, .int 2, .int (1 + r)]) rfl hp1 (by simp only [ev_aCons, ev_dm, ev_eLst, ev_eC, ev_bind, ev_eBin, e2, ev_aNil, ev_dm1, ev_dm2, ev_add]; rfl) rfl hp2 (by simp) (by simp)
  obtain ⟨l, rfl, l9⟩ : ∃ l : Int, x = .int l ∧ l.natAbs ≤ 10 := by
    simp only [List.mem_cons, List.not_mem_nil, or_false] at hx
    rcases hx with rfl | rfl | rfl | rfl
    · exact ⟨1, rfl, by decide⟩
    · exact ⟨1, rfl, by decide⟩
    · exact ⟨2, rfl, by decide⟩
    · exact ⟨1 + r, rfl, by omega⟩
  rw [rng_len] at hl
  have t1 : Tame 10 1 130 (.tuple ys) := (Tame.tuple (tameA_ints hy (n := 5) (by omega))).mono (Nat.le_refl _) (Nat.le_refl _) (by omega)
  have t2 : Tame 10 2 200 (.tuple [.int l, .tuple ys]) := (Tame.tuple (n := 1) (TameA.app (TameA.one (tame_int (D := 1) l9 (Nat.le_refl 20))) (TameA.one t1))).mono (Nat.le_refl _) (Nat.le_refl _) (by omega)
  refine ⟨p3, .tuple [.int l, .tuple ys], .d (.tuple ys), ?_, hp3, t2⟩
  have ap := app_ok (y := .tuple [.int l, .tuple ys]) hz
  unfold L2b
  rw [ev_sSeq, ev_sSet, ev_eCall, ev_aCons, ev_dm, e1]
  simp only [ev_bind, ev_dm2, ev_aNil, ev_tupL]
  have hset : (Fr p1 mq (.d (.int m)) zs people a6 a7 a8 a9 a10 a11 a12).set 9 (.d (.tuple ys)) = Fr p1 mq (.d (.int m)) zs people a6 a7 a8 (.d (.tuple ys)) a10 a11 a12 := rfl
  rw [hset]
  have hset2 : (Fr p2 mq (.d (.int m)) zs people a6 a7 a8 (.d (.tuple ys)) a10 a11 a12).set 0 p3 = Fr p3 mq (.d (.int m)) zs people a6 a7 a8 (.d (.tuple ys)) a10 a11 a12 := rfl
  rw [hset2] at e3
  have g4 : ∀ q, (Fr q mq (.d (.int m)) zs people a6 a7 a8 (.d (.tuple ys)) a10 a11 a12)[4]? = some (.ol zs) := fun _ => rfl
  have g9 : ∀ q, eVar 9 (Fr q mq (.d (.int m)) zs people a6 a7 a8 (.d (.tuple ys)) a10 a11 a12) = .ok (.tuple ys, Fr q mq (.d (.int m)) zs people a6 a7 a8 (.d (.tuple ys)) a10 a11 a12) := fun _ => rfl
  rw [ev_sDrop, ev_eMt, g4]
  simp only [ev_aCons, ev_eTup, ev_dm, e3, ev_bind, ev_dm1, g9, ev_aNil, g4, ap]
  rfl
/-! ties -/
def L3b : Sls → Res (Fl × Sls) := (sDrop (eMt 10 oExt (aCons (dm (eLc (iA rng2 (aCons (dm (eBin dAdd (eVar 11) (eC (.int 1)))) (aCons (eVar 3) aNil))) [12] (wName 12) (ofE (dm (eBin dEq (dm (eCallR 0 m__law_draw (aCons (eC (.int 4)) aNil))) (eC (.int 0))))) (eTup (aCons (eVar 11) (aCons (eVar 12) aNil))))) aNil)))
theorem ev_L3b {p : Sl} (hp : Pot p) {m i0 : Nat} (hm : m ≤ 5) (hi0 : i0 < m) {mq a6 a7 a8 a9 a12 : Sl} {papers people ts : List PyData} (ht : ts.length ≤ 900) :
    ∃ p' ys, L3b (Fr p mq (.d (.int m)) papers people a6 a7 a8 a9 (.ol ts) (.d (.int (i0 : Int))) a12) = .ok (.next, Fr p' mq (.d (.int m)) papers people a6 a7 a8 a9 (.ol (ts ++ ys)) (.d (.int (i0 : Int))) a12) ∧ Pot p' ∧ TameA 10 1 330 ys ∧ ys.length ≤ 5 := by
  have hlim : lim62 (m : Int) = true := lim_ok (by omega)
  have hrng := rng2_ok (k := (i0 : Int) + 1) (lim_ok (by omega)) hlim
  have hfi : iA rng2 (aCons (dm (eBin dAdd (eVar 11) (eC (.int 1)))) (aCons (eVar 3) aNil)) (Fr p mq (.d (.int m)) papers people a6 a7 a8 a9 (.ol ts) (.d (.int (i0 : Int))) a12) = .ok (rngD ((i0 : Int) + 1) ((m : Int) - ((i0 : Int) + 1)).toNat, Fr p mq (.d (.int m)) papers people a6 a7 a8 a9 (.ol ts) (.d (.int (i0 : Int))) a12) := iA_ok (xs := [.int ((i0 : Int) + 1), .int m]) rfl hrng
  obtain ⟨ys, S', e1, ⟨p1, hS', hp1⟩, hl, hy⟩ := eLc_inv (fi := (iA rng2 (aCons (dm (eBin dAdd (eVar 11) (eC (.int 1)))) (aCons (eVar 3) aNil)))) (vs := [12]) (w := wName 12) (ft := (ofE (dm (eBin dEq (dm (eCallR 0 m__law_draw (aCons (eC (.int 4)) aNil))) (eC (.int 0)))))) (fe := (eTup (aCons (eVar 11) (aCons (eVar 12) aNil))))
    (S := Fr p mq (.d (.int m)) papers people a6 a7 a8 a9 (.ol ts) (.d (.int (i0 : Int))) a12) (S1 := Fr p mq (.d (.int m)) papers people a6 a7 a8 a9 (.ol ts) (.d (.int (i0 : Int))) a12) (xs := rngD ((i0 : Int) + 1) ((m : Int) - ((i0 : Int) + 1)).toNat)
    (fun S => ∃ q, S = Fr q mq (.d (.int m)) papers people a6 a7 a8 a9 (.ol ts) (.d (.int (i0 : Int))) .un ∧ Pot q) (fun y => ∃ i j : Int, y = .tuple [.int i, .int j] ∧ i.natAbs ≤ 10 ∧ j.natAbs ≤ 10)
    hfi (by rw [rng_len]; exact line_of (by omega)) ⟨p, rfl, hp⟩ (fun d hd S ⟨q, hS, hq⟩ => by
      subst hS
      obtain ⟨i, hi, rfl⟩ := mem_rng hd
      generalize hv : ((i0 : Int) + 1 + (i : Int)) = v
      obtain ⟨r, q', e, r0, r1, hq'⟩ := draw_at (S := Fr q mq (.d (.int m)) papers people a6 a7 a8 a9 (.ol ts) (.d (.int (i0 : Int))) (.d (.int v))) (S' := Fr q mq (.d (.int m)) papers people a6 a7 a8 a9 (.ol ts) (.d (.int (i0 : Int))) (.d (.int v))) (many := 4) (fr := (aCons (eC (.int 4)) aNil)) rfl hq rfl rfl hq (by decide) (by decide)
      refine ⟨Fr q mq (.d (.int m)) papers people a6 a7 a8 a9 (.ol ts) (.d (.int (i0 : Int))) (.d (.int v)), r == 0, Fr q' mq (.d (.int m)) papers people a6 a7 a8 a9 (.ol ts) (.d (.int (i0 : Int))) (.d (.int v)), rfl, ?_, fun _ => ⟨q', rfl, hq'⟩, fun _ => ⟨.tuple [.int (i0 : Int), .int v], _, rfl, ⟨_, _, rfl, by omega, by omega⟩, q', rfl, hq'⟩⟩
      simp only [ev_ofE, ev_dm, ev_eBin, e, ev_bind, ev_dm1, ev_eC, ev_eqI, ev_asBool]
      rfl)
  subst hS'
  have hback : backS (Fr p mq (.d (.int m)) papers people a6 a7 a8 a9 (.ol ts) (.d (.int (i0 : Int))) a12) (Fr p1 mq (.d (.int m)) papers people a6 a7 a8 a9 (.ol ts) (.d (.int (i0 : Int))) .un) [12] = Fr p1 mq (.d (.int m)) papers people a6 a7 a8 a9 (.ol ts) (.d (.int (i0 : Int))) a12 := rfl
  rw [hback] at e1
  rw [rng_len] at hl
  have hl5 : ys.length ≤ 5 := by omega
  refine ⟨p1, ys, ?_, hp1, tameA_pairs hy hl5, hl5⟩
  have ex := ext_ok (xs := ts) (ys := ys) (by omega)
  have g10 : ∀ q, (Fr q mq (.d (.int m)) papers people a6 a7 a8 a9 (.ol ts) (.d (.int (i0 : Int))) a12)[10]? = some (.ol ts) := fun _ => rfl
  unfold L3b
  rw [ev_sDrop, ev_eMt, g10]
  simp only [ev_aCons, ev_dm, e1, ev_bind, ev_dm2, ev_aNil, g10, ex]
  rfl
end K16

namespace K16
open PySem PySem.Spec PyProof.Rows L2 PD
theorem forL_to {w : PyData → Sls → Option Sls} {g : Sls → Res (Fl × Sls)} (I : Nat → Sls → Prop) : ∀ {ds : List PyData} {S : Sls} {n : Nat}, I n S → (∀ (k : Nat) (d : PyData) (S : Sls), k < n + ds.length → d ∈ ds → I k S → ∃ S1 S2, w d S = some S1 ∧ g S1 = .ok (.next, S2) ∧ I (k + 1) S2) → ∃ S', forL w g ds S = .ok (.next, S') ∧ I (n + ds.length) S'
  | [], S, n, h, _ => ⟨S, rfl, h⟩
  | d :: ds, S, n, h, hs => by
    obtain ⟨S1, S2, h1, h2, h3⟩ := hs n d S (by rw [List.length_cons]; omega) (by simp) h
    obtain ⟨S', h4, h5⟩ := forL_to I (ds := ds) h3 fun k e T hk he hT => hs k e T (by rw [List.length_cons]; omega) (by simp [he]) hT
    refine ⟨S', ?_, by rw [List.length_cons]; rw [show n + (ds.length + 1) = n + 1 + ds.length by omega]; exact h5⟩
    rw [forL, h1]
    simp only [h2, ev_bind]
    exact h4
theorem call_loops {p : Sl} (hp : Pot p) {m : Nat} (hm : m ≤ 5) :
    ∃ q S1, forL (wName 6) L1b (rngD 0 m) (Fr p (.d (.int 5)) (.d (.int m)) [] [] .un .un .un .un .un .un .un) = .ok (.next, S1) ∧ Pot q ∧ ∃ zs a6 a7, S1 = Fr q (.d (.int 5)) (.d (.int m)) [] zs a6 a7 .un .un .un .un .un ∧ TameA 10 1 330 zs := by
  obtain ⟨S1, e, q, zs, a6, a7, hS, hq, hl, ht⟩ := forL_to (w := wName 6) (g := L1b) (fun k S => ∃ q zs a6 a7, S = Fr q (.d (.int 5)) (.d (.int m)) [] zs a6 a7 .un .un .un .un .un ∧ Pot q ∧ zs.length ≤ k ∧ TameA 10 1 (66 * k) zs)
    (ds := rngD 0 m) (S := Fr p (.d (.int 5)) (.d (.int m)) [] [] .un .un .un .un .un .un .un) (n := 0) ⟨p, [], .un, .un, rfl, hp, Nat.zero_le _, .nil⟩ (fun k d S hk hd ⟨q, zs, a6, a7, hS, hq, hl, ht⟩ => by
      subst hS
      rw [rng_len] at hk
      obtain ⟨q', l, a, e, hq', h1, h2⟩ := ev_L1b hq (mq := .d (.int 5)) (many := .d (.int m)) (a6 := .d d) (a7 := a7) (a8 := .un) (a9 := .un) (a10 := .un) (a11 := .un) (a12 := .un) (papers := []) (zs := zs) (by omega)
      exact ⟨_, _, rfl, e, q', _, _, _, rfl, hq', by rw [List.length_append]; simp only [List.length_cons, List.length_nil]; omega, (ht.app (TameA.one (tame_pair h2 h1))).mono (Nat.le_refl _) (Nat.le_refl _) (by omega)⟩)
  rw [rng_len] at hl ht
  exact ⟨q, S1, e, hq, zs, a6, a7, hS, ht.mono (Nat.le_refl _) (Nat.le_refl _) (by omega)⟩
theorem call_loop2 {p : Sl} (hp : Pot p) {m n : Nat} (hm : m ≤ 5) (hn : n ≤ 5) {people : List PyData} {a6 a7 : Sl} :
    ∃ q S1, forL (wName 8) L2b (rngD 0 n) (Fr p (.d (.int 5)) (.d (.int m)) [] people a6 a7 .un .un .un .un .un) = .ok (.next, S1) ∧ Pot q ∧ ∃ zs a8 a9, S1 = Fr q (.d (.int 5)) (.d (.int m)) zs people a6 a7 a8 a9 .un .un .un ∧ TameA 10 2 1010 zs := by
  obtain ⟨S1, e, q, zs, a8, a9, hS, hq, hl, ht⟩ := forL_to (w := wName 8) (g := L2b) (fun k S => ∃ q zs a8 a9, S = Fr q (.d (.int 5)) (.d (.int m)) zs people a6 a7 a8 a9 .un .un .un ∧ Pot q ∧ zs.length ≤ k ∧ TameA 10 2 (202 * k) zs)
    (ds := rngD 0 n) (S := Fr p (.d (.int 5)) (.d (.int m)) [] people a6 a7 .un .un .un .un .un) (n := 0) ⟨p, [], .un, .un, rfl, hp, Nat.zero_le _, .nil⟩ (fun k d S hk hd ⟨q, zs, a8, a9, hS, hq, hl, ht⟩ => by
      subst hS
      rw [rng_len] at hk
      obtain ⟨q', x, a9', e, hq', h1⟩ := ev_L2b hq hm (mq := .d (.int 5)) (a6 := a6) (a7 := a7) (a8 := .d d) (a9 := a9) (a10 := .un) (a11 := .un) (a12 := .un) (zs := zs) (people := people) (by omega)
      exact ⟨_, _, rfl, e, q', _, _, _, rfl, hq', by rw [List.length_append]; simp only [List.length_cons, List.length_nil]; omega, (ht.app (TameA.one h1)).mono (Nat.le_refl _) (Nat.le_refl _) (by omega)⟩)
  rw [rng_len] at hl ht
  exact ⟨q, S1, e, hq, zs, a8, a9, hS, ht.mono (Nat.le_refl _) (Nat.le_refl _) (by omega)⟩
theorem call_loop3 {p : Sl} (hp : Pot p) {m : Nat} (hm : m ≤ 5) {papers people : List PyData} {a6 a7 a8 a9 : Sl} :
    ∃ q S1, forL (wName 11) L3b (rngD 0 m) (Fr p (.d (.int 5)) (.d (.int m)) papers people a6 a7 a8 a9 (.ol []) .un .un) = .ok (.next, S1) ∧ Pot q ∧ ∃ zs a11 a12, S1 = Fr q (.d (.int 5)) (.d (.int m)) papers people a6 a7 a8 a9 (.ol zs) a11 a12 ∧ TameA 10 1 1650 zs := by
  obtain ⟨S1, e, q, zs, a11, a12, hS, hq, hl, ht⟩ := forL_to (w := wName 11) (g := L3b) (fun k S => ∃ q zs a11 a12, S = Fr q (.d (.int 5)) (.d (.int m)) papers people a6 a7 a8 a9 (.ol zs) a11 a12 ∧ Pot q ∧ zs.length ≤ 5 * k ∧ TameA 10 1 (330 * k) zs)
    (ds := rngD 0 m) (S := Fr p (.d (.int 5)) (.d (.int m)) papers people a6 a7 a8 a9 (.ol []) .un .un) (n := 0) ⟨p, [], .un, .un, rfl, hp, Nat.zero_le _, .nil⟩ (fun k d S hk hd ⟨q, zs, a11, a12, hS, hq, hl, ht⟩ => by
      subst hS
      rw [rng_len] at hk
      obtain ⟨i, hi, hd⟩ := mem_rng hd
      rw [show ((0 : Int) + (i : Int)) = (i : Int) by omega] at hd
      subst hd
      obtain ⟨q', ys, e, hq', h1, h2⟩ := ev_L3b hq hm hi (mq := .d (.int 5)) (a6 := a6) (a7 := a7) (a8 := a8) (a9 := a9) (a12 := a12) (papers := papers) (people := people) (ts := zs) (by omega)
      exact ⟨_, _, rfl, e, q', _, _, _, rfl, hq', by rw [List.length_append]; omega, (ht.app h1).mono (Nat.le_refl _) (Nat.le_refl _) (by omega)⟩)
  rw [rng_len] at hl ht
  exact ⟨q, S1, e, hq, zs, a11, a12, hS, ht.mono (Nat.le_refl _) (Nat.le_refl _) (by omega)⟩
theorem ev_call {p : Sl} (hp : Pot p) : ∃ ps qs ts p', m__law_call [p, .d (.int 5), .d (.int 5)] = .ok (.d (.tuple [.str "call", .tuple ps, .tuple qs, .tuple ts]), [p', .un, .un]) ∧ Pot p' ∧ Tame 10 4 3100 (.tuple [.str "call", .tuple ps, .tuple qs, .tuple ts]) := by
  obtain ⟨r, p1, e1, r0, r1, hp1⟩ := draw_at (S := [p, .d (.int 5), .d (.int 5), .un, .un, .un, .un, .un, .un, .un, .un, .un, .un]) (S' := [p, .d (.int 5), .d (.int 5), .un, .un, .un, .un, .un, .un, .un, .un, .un, .un]) (many := 5) (fr := (aCons (eVar 1) aNil)) rfl hp rfl rfl hp (by decide) (by decide)
  obtain ⟨j, rfl⟩ : ∃ j : Nat, r = (j : Int) := ⟨r.toNat, by omega⟩
  have hm : 1 + j ≤ 5 := by omega
  have cm : (1 + (j : Int)) = ((1 + j : Nat) : Int) := by omega
  obtain ⟨p2, S1, f1, hp2, ps, a6, a7, hS1, t1⟩ := call_loops hp1 hm
  obtain ⟨r2, p3, e2, r20, r21, hp3⟩ := draw_at (S := Fr p2 (.d (.int 5)) (.d (.int (1 + j : Nat))) [] ps a6 a7 .un .un .un .un .un) (S' := Fr p2 (.d (.int 5)) (.d (.int (1 + j : Nat))) [] ps a6 a7 .un .un .un .un .un) (many := 5) (fr := (aCons (eVar 2) aNil)) rfl hp2 rfl rfl hp2 (by decide) (by decide)
  obtain ⟨l, rfl⟩ : ∃ j : Nat, r2 = (j : Int) := ⟨r2.toNat, by omega⟩
  have hn : 1 + l ≤ 5 := by omega
  have cn : (1 + (l : Int)) = ((1 + l : Nat) : Int) := by omega
  obtain ⟨p4, S2, f2, hp4, qs, a8, a9, hS2, t2⟩ := call_loop2 hp3 hm hn (people := ps) (a6 := a6) (a7 := a7)
  obtain ⟨p5, S3, f3, hp5, ts, a11, a12, hS3, t3⟩ := call_loop3 hp4 hm (papers := qs) (people := ps) (a6 := a6) (a7 := a7) (a8 := a8) (a9 := a9)
  subst hS1 hS2 hS3
  have g1 : iA rng1 (aCons (eVar 3) aNil) (Fr p1 (.d (.int 5)) (.d (.int (1 + j : Nat))) [] [] .un .un .un .un .un .un .un) = .ok (rngD 0 (1 + j), Fr p1 (.d (.int 5)) (.d (.int (1 + j : Nat))) [] [] .un .un .un .un .un .un .un) := iA_ok (xs := [.int (1 + j : Nat)]) rfl (rng1_nat (by omega))
  have g2 : iA rng1 (aCons (dm (eBin dAdd (eC (.int 1)) (dm (eCallR 0 m__law_draw (aCons (eVar 2) aNil))))) aNil) (Fr p2 (.d (.int 5)) (.d (.int (1 + j : Nat))) [] ps a6 a7 .un .un .un .un .un) = .ok (rngD 0 (1 + l), Fr p3 (.d (.int 5)) (.d (.int (1 + j : Nat))) [] ps a6 a7 .un .un .un .un .un) := by
    refine iA_ok (xs := [.int (1 + l : Nat)]) ?_ (rng1_nat (by omega))
    simp only [ev_aCons, ev_dm, ev_eBin, ev_eC, ev_bind, e2, ev_dm1, ev_add, ev_aNil]
    rw [cn]; rfl
  have g3 : iA rng1 (aCons (eVar 3) aNil) (Fr p4 (.d (.int 5)) (.d (.int (1 + j : Nat))) qs ps a6 a7 a8 a9 (.ol []) .un .un) = .ok (rngD 0 (1 + j), Fr p4 (.d (.int 5)) (.d (.int (1 + j : Nat))) qs ps a6 a7 a8 a9 (.ol []) .un .un) := iA_ok (xs := [.int (1 + j : Nat)]) rfl (rng1_nat (by omega))
  have s0 : (sPar 3 4 (eBin dAdd (eC (.int 1)) (dm (eCallR 0 m__law_draw (aCons (eVar 1) aNil)))) (eLst aNil)) [p, .d (.int 5), .d (.int 5), .un, .un, .un, .un, .un, .un, .un, .un, .un, .un] = .ok (.next, [p1, .d (.int 5), .d (.int 5), .d (.int (1 + j : Nat)), .ol [], .un, .un, .un, .un, .un, .un, .un, .un]) := by
    simp only [ev_sPar, ev_dm, ev_eBin, ev_eC, ev_bind, e1, ev_dm1, ev_add, ev_aNil, ev_eLst]
    rw [cm]; rfl
  have fin : (sRet (lf (eTup (aCons (eC (.str "call")) (aCons (dm (eCall dTup (aCons (eVar 5) aNil))) (aCons (dm (eCall dTup (aCons (eVar 4) aNil))) (aCons (dm (eCall dTup (aCons (eVar 10) aNil))) aNil))))))) (Fr p5 (.d (.int 5)) (.d (.int (1 + j : Nat))) qs ps a6 a7 a8 a9 (.ol ts) a11 a12) = .ok (.ret (.d (.tuple [.str "call", .tuple ps, .tuple qs, .tuple ts])), [p5, .d (.int 5), .d (.int 5), .d (.int (1 + j : Nat)), .d (.list qs), .d (.list ps), a6, a7, a8, a9, .d (.list ts), a11, a12]) := rfl
  have whole : b__law_call [p, .d (.int 5), .d (.int 5), .un, .un, .un, .un, .un, .un, .un, .un, .un, .un] = .ok (.ret (.d (.tuple [.str "call", .tuple ps, .tuple qs, .tuple ts])), [p5, .d (.int 5), .d (.int 5), .d (.int (1 + j : Nat)), .d (.list qs), .d (.list ps), a6, a7, a8, a9, .d (.list ts), a11, a12]) := by
    have R : ∀ (b1 b2 : Sls → Res (Fl × Sls)) (S S' : Sls), b1 S = .ok (.next, S') → sSeq b1 b2 S = b2 S' := fun b1 b2 S S' h => by rw [ev_sSeq, h]; rfl
    have z5 : sSet 5 (eLst aNil) [p1, .d (.int 5), .d (.int 5), .d (.int (1 + j : Nat)), .ol [], .un, .un, .un, .un, .un, .un, .un, .un] = .ok (.next, Fr p1 (.d (.int 5)) (.d (.int (1 + j : Nat))) [] [] .un .un .un .un .un .un .un) := rfl
    have z6 : sFor (iA rng1 (aCons (eVar 3) aNil)) (wName 6) L1b (Fr p1 (.d (.int 5)) (.d (.int (1 + j : Nat))) [] [] .un .un .un .un .un .un .un) = .ok (.next, Fr p2 (.d (.int 5)) (.d (.int (1 + j : Nat))) [] ps a6 a7 .un .un .un .un .un) := by rw [ev_sFor, g1]; exact f1
    have z7 : sFor (iA rng1 (aCons (dm (eBin dAdd (eC (.int 1)) (dm (eCallR 0 m__law_draw (aCons (eVar 2) aNil))))) aNil)) (wName 8) L2b (Fr p2 (.d (.int 5)) (.d (.int (1 + j : Nat))) [] ps a6 a7 .un .un .un .un .un) = .ok (.next, Fr p4 (.d (.int 5)) (.d (.int (1 + j : Nat))) qs ps a6 a7 a8 a9 .un .un .un) := by rw [ev_sFor, g2]; exact f2
    have z8 : sSet 10 (eLst aNil) (Fr p4 (.d (.int 5)) (.d (.int (1 + j : Nat))) qs ps a6 a7 a8 a9 .un .un .un) = .ok (.next, Fr p4 (.d (.int 5)) (.d (.int (1 + j : Nat))) qs ps a6 a7 a8 a9 (.ol []) .un .un) := rfl
    have z9 : sFor (iA rng1 (aCons (eVar 3) aNil)) (wName 11) L3b (Fr p4 (.d (.int 5)) (.d (.int (1 + j : Nat))) qs ps a6 a7 a8 a9 (.ol []) .un .un) = .ok (.next, Fr p5 (.d (.int 5)) (.d (.int (1 + j : Nat))) qs ps a6 a7 a8 a9 (.ol ts) a11 a12) := by rw [ev_sFor, g3]; exact f3
    exact (R _ _ _ _ s0).trans ((R _ _ _ _ z5).trans ((R _ _ _ _ z6).trans ((R _ _ _ _ z7).trans ((R _ _ _ _ z8).trans ((R _ _ _ _ z9).trans fin)))))
  refine ⟨ps, qs, ts, p5, ?_, hp5, ?_⟩
  · show (b__law_call [p, .d (.int 5), .d (.int 5), .un, .un, .un, .un, .un, .un, .un, .un, .un, .un]).bind _ = _
    rw [whole]; rfl
  · have u1 := Tame.tuple t1
    have u2 := Tame.tuple t2
    have u3 := Tame.tuple t3
    have s1 : Tame 10 3 20 (.str "call") := tame_str (by decide +kernel) (Nat.le_refl _)
    have w1 := (TameA.one s1).app ((TameA.one (u1.mono (Nat.le_refl _) (show 2 ≤ 3 by decide) (Nat.le_refl _))).app ((TameA.one u2).app (TameA.one (u3.mono (Nat.le_refl _) (show 2 ≤ 3 by decide) (Nat.le_refl _)))))
    exact (Tame.tuple w1).mono (Nat.le_refl _) (Nat.le_refl _) (by omega)
end K16

namespace K16
open PySem PySem.Spec PyProof.Rows L2 PD
theorem seq_next {b1 b2 : Sls → Res (Fl × Sls)} {S S' : Sls} (h : b1 S = .ok (.next, S')) : sSeq b1 b2 S = b2 S' := by rw [ev_sSeq, h]; rfl
theorem bent_at {S S' : Sls} {fr : Sls → Res (List PyData × Sls)} {p0 p : Sl} {d : PyData} {k W : Nat} (hS : S[0]? = some p0) (h0 : Pot p0) (hf : fr S = .ok ([d], S')) (hS' : S'[0]? = some p) (hp : Pot p) (ht : Tame k 4 W d) (hk : 10 ≤ k) (hk2 : k + 1 ≤ 20) (hW0 : 20 ≤ W) (hW : W ≤ 20000) :
    ∃ (r : Sl) (y : PyData) (p' : Sl), eCallR 0 (m__law_bent 6) fr S = .ok (r, S'.set 0 p') ∧ Gives r y ∧ Tame (k + 1) 4 (5 * W + 100) y ∧ Pot p' := by
  obtain ⟨r, y, p', e, g, t, hp'⟩ := ev_bent 6 hp ht hk hk2 (Nat.lt_of_le_of_lt ht.dp (by decide)) hW0 hW
  obtain ⟨z0, rfl⟩ := pot_ol h0
  obtain ⟨z1, rfl⟩ := pot_ol hp
  obtain ⟨z2, rfl⟩ := pot_ol hp'
  exact ⟨r, y, .ol z2, by simp [hS, hf, hS', e], g, t, hp'⟩
/-- the values that are tried -/
def Good (x : PyData) : Prop := Tame 12 4 80000 x
def Rf (p c v a3 a4 a5 a6 a7 : Sl) : Sls := [p, c, v, a3, a4, a5, a6, a7]
def T8 : Sls → Res (Fl × Sls) := (sSeq (sSet 4 (eCallR 0 (m__law_bent 6) (aCons (eVar 1) aNil)))
  (sDrop (eMt 2 oExt (aCons (dm (eLst (aCons (eVar 4) (aCons (dm (eCallR 0 (m__law_bent 6) (aCons (eVar 4) aNil))) aNil)))) aNil))))
theorem gives_var {r : Sl} {y : PyData} (g : Gives r y) (p c v a3 a5 a6 a7 : Sl) : eVar 4 (Rf p c v a3 r a5 a6 a7) = .ok (y, Rf p c v a3 (.d y) a5 a6 a7) := by
  rcases g with rfl | ⟨ys, rfl, rfl⟩ <;> rfl
theorem ev_T8 {p : Sl} (hp : Pot p) {c : PyData} (hc : Tame 10 4 3100 c) {zs : List PyData} (hz : zs.length ≤ 900) {a3 a4 a5 a6 a7 : Sl} :
    ∃ p' a4' y1 y2, T8 (Rf p (.d c) (.ol zs) a3 a4 a5 a6 a7) = .ok (.next, Rf p' (.d c) (.ol (zs ++ [y1, y2])) a3 a4' a5 a6 a7) ∧ Pot p' ∧ Good y1 ∧ Good y2 := by
  obtain ⟨r, y1, p1, e1, g1, t1, hp1⟩ := bent_at (S := Rf p (.d c) (.ol zs) a3 a4 a5 a6 a7) (S' := Rf p (.d c) (.ol zs) a3 a4 a5 a6 a7) (fr := (aCons (eVar 1) aNil)) rfl hp rfl rfl hp hc (by decide) (by decide) (by decide) (by decide)
  have v1 := gives_var g1 p1 (.d c) (.ol zs) a3 a5 a6 a7
  have v2 : ∀ q, eVar 4 (Rf q (.d c) (.ol zs) a3 (.d y1) a5 a6 a7) = .ok (y1, Rf q (.d c) (.ol zs) a3 (.d y1) a5 a6 a7) := fun _ => rfl
  obtain ⟨r2, y2, p2, e2, g2, t2, hp2⟩ := bent_at (S := Rf p1 (.d c) (.ol zs) a3 (.d y1) a5 a6 a7) (S' := Rf p1 (.d c) (.ol zs) a3 (.d y1) a5 a6 a7) (fr := (aCons (eVar 4) aNil)) rfl hp1 rfl rfl hp1 t1 (by decide) (by decide) (by decide) (by decide)
  have d2 : ∀ S : Sls, dmS (r2, S) = .ok (y2, S) := fun S => by rcases g2 with rfl | ⟨ys, rfl, rfl⟩ <;> rfl
  have ex := ext_ok (xs := zs) (ys := [y1, y2]) (by simp only [List.length_cons, List.length_nil]; omega)
  refine ⟨p2, .d y1, y1, y2, ?_, hp2, t1.mono (by decide) (Nat.le_refl _) (by decide), t2.mono (by decide) (Nat.le_refl _) (by decide)⟩
  have s1 : sSet 4 (eCallR 0 (m__law_bent 6) (aCons (eVar 1) aNil)) (Rf p (.d c) (.ol zs) a3 a4 a5 a6 a7) = .ok (.next, Rf p1 (.d c) (.ol zs) a3 r a5 a6 a7) := by rw [ev_sSet, e1]; rfl
  unfold T8
  rw [seq_next s1]
  have arg : (aCons (dm (eLst (aCons (eVar 4) (aCons (dm (eCallR 0 (m__law_bent 6) (aCons (eVar 4) aNil))) aNil)))) aNil) (Rf p1 (.d c) (.ol zs) a3 r a5 a6 a7) = .ok ([.list [y1, y2]], Rf p2 (.d c) (.ol zs) a3 (.d y1) a5 a6 a7) := by
    simp only [ev_aCons, ev_dm, ev_eLst, v1, ev_bind, e2, d2, ev_aNil, ev_dm2]
    rfl
  have g0 : ∀ q a, (Rf q (.d c) (.ol zs) a3 a a5 a6 a7)[2]? = some (.ol zs) := fun _ _ => rfl
  rw [ev_sDrop, ev_eMt, g0]
  simp only [arg, ev_bind, g0, ex]
  rfl
/-! the check of one value -/
def V5 : Sls → Res (Fl × Sls) := (sSeq (sPar 6 7 (eCall dRepr (aCons (eVar 5) aNil)) (eCall0 m__law_flaw (aCons (eVar 5) aNil)))
  (sIf (tOrr (ofE (dm (eBin dNe (dm (eCall dRepr (aCons (dm (eLst (aCons (dm (eCall0 m_flaw (aCons (eVar 5) aNil))) (aCons (dm (eCallK [0] m_flaw (aCons (eVar 5) aNil))) (aCons (dm (eCall0 m_is_call (aCons (eVar 5) aNil))) (aCons (dm (eCallK [0] m_is_call (aCons (eVar 5) aNil))) aNil)))))) aNil))) (dm (eCall dRepr (aCons (dm (eLst (aCons (eVar 7) (aCons (eVar 7) (aCons (dm (eBin dIsN (eVar 7) (eC .none))) (aCons (dm (eBin dIsN (eVar 7) (eC .none))) aNil)))))) aNil)))))) (ofE (dm (eBin dNe (dm (eCall dRepr (aCons (eVar 5) aNil))) (eVar 6))))) (sRet (lf (eC (.bool false)))) sNil))
theorem flaw_is (x : PyData) : flawS x = .none ∨ flawS x = .str "form" ∨ flawS x = .str "people" ∨ flawS x = .str "papers" ∨ flawS x = .str "ties" := by
  unfold flawS
  split
  · split
    · split
      · split
        · split <;> simp
        · simp
      · simp
    · simp
  · simp
theorem repr_four (x : PyData) : ∃ t, dRepr [.list [flawS x, flawS x, .bool (isN (flawS x)), .bool (isN (flawS x))]] = .ok (.d (.str t)) := by
  have key : ∀ f : PyData, showOk (.list [f, f, .bool (isN f), .bool (isN f)]) = true → ∃ t, dRepr [.list [f, f, .bool (isN f), .bool (isN f)]] = .ok (.d (.str t)) := fun f h => ⟨_, by
    show (if showOk (.list [f, f, .bool (isN f), .bool (isN f)]) = true then Res.ok (Sl.d (.str (PyData.list [f, f, .bool (isN f), .bool (isN f)]).shown)) else .bad) = _
    rw [if_pos h]⟩
  rcases flaw_is x with h | h | h | h | h <;> rw [h]
  · exact key .none (by decide +kernel)
  · exact key (.str "form") (by decide +kernel)
  · exact key (.str "people") (by decide +kernel)
  · exact key (.str "papers") (by decide +kernel)
  · exact key (.str "ties") (by decide +kernel)
theorem ev_V5 {x : PyData} (hx : Good x) {p c v a3 a4 a6 a7 : Sl} : V5 (Rf p c v a3 a4 (.d x) a6 a7) = .ok (.next, Rf p c v a3 a4 (.d x) (.d (.str x.shown)) (.d (flawS x))) := by
  have hw : wt x ≤ 1000000 := Nat.le_trans hx.wt (by decide)
  have r1 := ev_repr (nice_mono (by decide) x hx.nc) hw (Nat.le_trans hx.dp (by decide))
  have f1 := ev_flaw' x hw
  have f2 := ev_flaw x hw
  have f3 := ev_is_call x hw
  obtain ⟨t, r2⟩ := repr_four x
  have s1 : (sPar 6 7 (eCall dRepr (aCons (eVar 5) aNil)) (eCall0 m__law_flaw (aCons (eVar 5) aNil))) (Rf p c v a3 a4 (.d x) a6 a7) = .ok (.next, Rf p c v a3 a4 (.d x) (.d (.str x.shown)) (.d (flawS x))) := by
    have e5 : eVar 5 (Rf p c v a3 a4 (.d x) a6 a7) = .ok (x, Rf p c v a3 a4 (.d x) a6 a7) := rfl
    simp only [ev_sPar, ev_eCall, ev_aCons, e5, ev_bind, ev_aNil, r1, ev_eCall0, List.map_cons, List.map_nil, f1]
    rfl
  unfold V5
  rw [seq_next s1]
  have e5 : eVar 5 (Rf p c v a3 a4 (.d x) (.d (.str x.shown)) (.d (flawS x))) = .ok (x, Rf p c v a3 a4 (.d x) (.d (.str x.shown)) (.d (flawS x))) := rfl
  have e6 : eVar 6 (Rf p c v a3 a4 (.d x) (.d (.str x.shown)) (.d (flawS x))) = .ok (.str x.shown, Rf p c v a3 a4 (.d x) (.d (.str x.shown)) (.d (flawS x))) := rfl
  have e7 : eVar 7 (Rf p c v a3 a4 (.d x) (.d (.str x.shown)) (.d (flawS x))) = .ok (flawS x, Rf p c v a3 a4 (.d x) (.d (.str x.shown)) (.d (flawS x))) := rfl
  have k1 : ([x] : List PyData).getD 0 .none = x := rfl
  have t1 : (!(t == t)) = false := by simp
  have t2 : (!(x.shown == x.shown)) = false := by simp
  rw [ev_sIf]
  simp only [ev_tOrr, ev_ofE, ev_dm, ev_eBin, ev_eCall, ev_aCons, ev_eLst, ev_eCall0, ev_eCallK, e5, e6, e7, ev_bind, ev_aNil, k1, List.map_cons, List.map_nil, f2, f3, ev_dm1, ev_dm2, r2, ev_isN, ev_eC, ev_neS, t1, t2, ev_asBool, r1, Bool.false_eq_true, if_false, ev_sNil]
theorem good_of {x : PyData} (h : Tame 10 4 3100 x) : Good x := h.mono (by decide) (Nat.le_refl _) (by decide)
theorem ev_right {p : Sl} (hp : Pot p) : ∃ S, m__law_right [p] = .ok (.d (.bool true), S) := by
  obtain ⟨ps, qs, ts, p1, e1, hp1, hc⟩ := ev_call hp
  generalize hcv : PyData.tuple [.str "call", .tuple ps, .tuple qs, .tuple ts] = c at *
  obtain ⟨z0, rfl⟩ := pot_ol hp
  obtain ⟨z1, hz1⟩ := pot_ol hp1
  subst hz1
  have s1 : sSet 1 (eCallR 0 m__law_call (aCons (eC (.int 5)) (aCons (eC (.int 5)) aNil))) [.ol z0, .un, .un, .un, .un, .un, .un, .un] = .ok (.next, Rf (.ol z1) (.d c) .un .un .un .un .un .un) := by
    rw [ev_sSet]
    simp only [ev_eCallR, List.getElem?_cons_zero, ev_aCons, ev_eC, ev_bind, ev_aNil, List.map_cons, List.map_nil, e1, ev_putR]
    rfl
  let V0 : List PyData := [c, .none, .int 0, .str "call", .tuple [], .list [], .dict [], .list [.str "call", .tuple ps, .tuple qs, .tuple ts], .tuple (PD.cutD [.str "call", .tuple ps, .tuple qs, .tuple ts] none (some 3)), .tuple [.str "call", .tuple [], .tuple [], .tuple []], .tuple [.str "call", .tuple [.tuple [.int 0, .int 0]], .tuple [.tuple [.int 1, .tuple []]], .tuple []]]
  have s2 : sSet 2 (eLst (aCons (eVar 1) (aCons (eC .none) (aCons (eC (.int 0)) (aCons (eC (.str "call")) (aCons (eTup aNil) (aCons (dm (eLst aNil)) (aCons (dm eNewK) (aCons (dm (eCall dList (aCons (eVar 1) aNil))) (aCons (dm (eSl dSl (eVar 1) pNo (pInt (eC (.int 3))))) (aCons (eTup (aCons (eC (.str "call")) (aCons (eTup aNil) (aCons (eTup aNil) (aCons (eTup aNil) aNil))))) (aCons (eTup (aCons (eC (.str "call")) (aCons (eTup (aCons (eTup (aCons (eC (.int 0)) (aCons (eC (.int 0)) aNil))) aNil)) (aCons (eTup (aCons (eTup (aCons (eC (.int 1)) (aCons (eTup aNil) aNil))) aNil)) (aCons (eTup aNil) aNil))))) aNil)))))))))))) (Rf (.ol z1) (.d c) .un .un .un .un .un .un) = .ok (.next, Rf (.ol z1) (.d c) (.ol V0) .un .un .un .un .un) := by
    subst hcv; rfl
  have hA : TameA 10 3 3080 [.str "call", .tuple ps, .tuple qs, .tuple ts] := by
    subst hcv
    obtain ⟨n, w, h1, h2, h3⟩ := hc.ofT
    obtain rfl : n = 3 := by omega
    exact h3.mono (Nat.le_refl _) (Nat.le_refl _) (by omega)
  have g0 : ∀ x ∈ V0, Good x := by
    intro x hx
    simp only [V0, List.mem_cons, List.not_mem_nil, or_false] at hx
    rcases hx with rfl | rfl | rfl | rfl | rfl | rfl | rfl | rfl | rfl | rfl | rfl
    · exact good_of hc
    · exact ⟨rfl, by decide, by decide⟩
    · exact ⟨rfl, by decide, by decide⟩
    · exact tame_str (by decide +kernel) (by decide)
    · exact ⟨rfl, by decide, by decide⟩
    · exact ⟨rfl, by decide, by decide⟩
    · exact ⟨rfl, by decide, by decide⟩
    · exact good_of ((Tame.list hA).mono (Nat.le_refl _) (Nat.le_refl _) (by decide))
    · exact good_of ((Tame.tuple (hA.sub (cut_sub _ _ _))).mono (Nat.le_refl _) (Nat.le_refl _) (by decide))
    · exact ⟨by decide +kernel, by decide +kernel, by decide +kernel⟩
    · exact ⟨by decide +kernel, by decide +kernel, by decide +kernel⟩
  obtain ⟨S3, f3, q, zs, a3, a4, hS3, hq, hl, hg⟩ := forL_to (w := wName 3) (g := T8) (fun k S => ∃ q zs a3 a4, S = Rf q (.d c) (.ol zs) a3 a4 .un .un .un ∧ Pot q ∧ zs.length ≤ 11 + 2 * k ∧ ∀ x ∈ zs, Good x)
    (ds := rngD 0 8) (S := Rf (.ol z1) (.d c) (.ol V0) .un .un .un .un .un) (n := 0) ⟨_, V0, .un, .un, rfl, hp1, by show 11 ≤ 11; decide, g0⟩ (fun k d S hk hd ⟨q, zs, a3, a4, hS, hq, hl, hg⟩ => by
      subst hS
      rw [rng_len] at hk
      obtain ⟨q', a4', y1, y2, e, hq', h1, h2⟩ := ev_T8 hq hc (zs := zs) (by omega) (a3 := .d d) (a4 := a4) (a5 := .un) (a6 := .un) (a7 := .un)
      refine ⟨_, _, rfl, e, q', _, _, _, rfl, hq', by rw [List.length_append]; simp only [List.length_cons, List.length_nil]; omega, fun x hx => ?_⟩
      rcases List.mem_append.mp hx with hx | hx
      · exact hg x hx
      · simp only [List.mem_cons, List.not_mem_nil, or_false] at hx
        rcases hx with rfl | rfl
        · exact h1
        · exact h2)
  subst hS3
  have s3 : sFor (iA rng1 (aCons (eC (.int 8)) aNil)) (wName 3) T8 (Rf (.ol z1) (.d c) (.ol V0) .un .un .un .un .un) = .ok (.next, Rf q (.d c) (.ol zs) a3 a4 .un .un .un) := by
    have g : iA rng1 (aCons (eC (.int 8)) aNil) (Rf (.ol z1) (.d c) (.ol V0) .un .un .un .un .un) = .ok (rngD 0 8, Rf (.ol z1) (.d c) (.ol V0) .un .un .un .un .un) := iA_ok (xs := [.int ((8 : Nat) : Int)]) rfl (rng1_nat (by decide))
    rw [ev_sFor, g]; exact f3
  obtain ⟨S4, f4, a5, a6, a7, hS4⟩ := forL_to (w := wName 5) (g := V5) (fun _ S => ∃ a5 a6 a7, S = Rf q (.d c) (.d (.list zs)) a3 a4 a5 a6 a7)
    (ds := zs) (S := Rf q (.d c) (.d (.list zs)) a3 a4 .un .un .un) (n := 0) ⟨.un, .un, .un, rfl⟩ (fun k d S hk hd ⟨a5, a6, a7, hS⟩ => by
      subst hS
      exact ⟨_, _, rfl, ev_V5 (hg d hd) (p := q) (c := .d c) (v := .d (.list zs)) (a3 := a3) (a4 := a4) (a6 := a6) (a7 := a7), _, _, _, rfl⟩)
  subst hS4
  have s4 : sFor (iD (eVar 2)) (wName 5) V5 (Rf q (.d c) (.ol zs) a3 a4 .un .un .un) = .ok (.next, Rf q (.d c) (.d (.list zs)) a3 a4 a5 a6 a7) := by
    have g : iD (eVar 2) (Rf q (.d c) (.ol zs) a3 a4 .un .un .un) = .ok (zs, Rf q (.d c) (.d (.list zs)) a3 a4 .un .un .un) := rfl
    rw [ev_sFor, g]; exact f4
  have whole : b__law_right [.ol z0, .un, .un, .un, .un, .un, .un, .un] = .ok (.ret (.d (.bool true)), Rf q (.d c) (.d (.list zs)) a3 a4 a5 a6 a7) :=
    (seq_next s1).trans ((seq_next s2).trans ((seq_next s3).trans (seq_next s4)))
  refine ⟨outP [0] (Rf q (.d c) (.d (.list zs)) a3 a4 a5 a6 a7) 1, ?_⟩
  show (b__law_right [.ol z0, .un, .un, .un, .un, .un, .un, .un]).bind _ = _
  rw [whole]; rfl
theorem law_true : ∀ ns : List Int, ns.length ≤ 63 → ∃ S, m_law [.sc ns] = .ok (.d (.bool true), S) := by
  intro ns hns
  obtain ⟨n, hn, hn2⟩ : ∃ n : Nat, n ≤ 3 ∧ (aCons (dm (eCall dMax (aCons (eC (.int 1)) (aCons (dm (eCall dMin (aCons (eC (.int 3)) (aCons (eLenO 0) aNil)))) aNil)))) aNil) [.sc ns, .un] = .ok ([.int (n : Int)], [.sc ns, .un]) := by
    by_cases h1 : ns.length < 3
    · by_cases h2 : 1 < ns.length
      · exact ⟨ns.length, by omega, by
          have c1 : (ns.length : Int) < 3 := by omega
          have c2 : (ns.length : Int) > 1 := by omega
          simp [c1, c2]⟩
      · exact ⟨1, by omega, by
          have c1 : (ns.length : Int) < 3 := by omega
          have c2 : ¬ (ns.length : Int) > 1 := by omega
          simp [c1, c2]⟩
    · exact ⟨3, by omega, by
        have c1 : ¬ (ns.length : Int) < 3 := by omega
        simp [c1]⟩
  have hfi : iA rng1 (aCons (dm (eCall dMax (aCons (eC (.int 1)) (aCons (dm (eCall dMin (aCons (eC (.int 3)) (aCons (eLenO 0) aNil)))) aNil)))) aNil) [.sc ns, .un] = .ok (rngD 0 n, [.sc ns, .un]) := iA_ok hn2 (rng1_nat (by omega))
  have e1 : eLc (iA rng1 (aCons (dm (eCall dMax (aCons (eC (.int 1)) (aCons (dm (eCall dMin (aCons (eC (.int 3)) (aCons (eLenO 0) aNil)))) aNil)))) aNil)) [1] (wName 1) tYs (dm (eCallT m__law_right (eCallS 0 m__law_pot (aCons (eVar 1) aNil)) aNil)) [.sc ns, .un] = .ok (.ol ((rngD 0 n).map fun _ => .bool true), [.sc ns, .un]) := by
    refine eLc_all _ hfi (by rw [rng_len]; exact line_of (by omega)) fun d hd => ?_
    obtain ⟨i, hi, rfl⟩ := mem_rng hd
    obtain ⟨p, ep, hp⟩ := ev_pot ns (k := 0 + (i : Int)) (by omega) (by omega)
    obtain ⟨S, er⟩ := ev_right hp
    refine ⟨[.sc ns, .d (.int (0 + (i : Int)))], [.sc ns, .d (.int (0 + (i : Int)))], rfl, ?_, rfl⟩
    have e0 : eVar 1 [.sc ns, .d (.int (0 + (i : Int)))] = .ok (.int (0 + (i : Int)), [.sc ns, .d (.int (0 + (i : Int)))]) := rfl
    simp only [ev_dm, ev_eCallT, ev_eCallS, List.getElem?_cons_zero, ev_aCons, e0, ev_bind, ev_aNil, List.map_cons, List.map_nil, ep, er, ev_dm1]
  refine ⟨[.un], ?_⟩
  have whole : b_law [.sc ns, .un] = .ok (.ret (.d (.bool true)), [.sc ns, .un]) := by
    unfold b_law
    rw [ev_sRet, ev_eCall, ev_aCons, ev_dm, e1]
    simp only [ev_bind, ev_dm2, ev_aNil, dAll_map]
    have : ((rngD 0 n).all fun _ => true) = true := by simp
    rw [this]
  show (b_law [.sc ns, .un]).bind _ = _
  rw [whole]; rfl
end K16

open PySem PySem.W PyProof.Rows
set_option maxHeartbeats 0 in
theorem PySem.Challenge.cw_calledpapers_k16_any_values_as_calls_holds : PySem.Challenge.rw_calledpapers_k16_any_values_as_calls.Holds := by
  w_on; o_law; k_head; (case hw => w_witness2)
  k_fill
  refine PD.walk_end (l := PySem.Challenge.rw_calledpapers_k16_any_values_as_calls) (n := 63) (k := 10) (x := "script") (m := K16.m_law) rfl (by decide) rfl ⟨rfl, by decide, by decide⟩ (fun w h Y => PySem.W.kIn_of Y) ?F K16.law_true
  case F =>
    intro w mg fa h KX G hmg
    refine' K16.all_mk KX G hmg ?a0 ?l0 ?c0 ?k0 ?a1 ?l1 ?c1 ?k1 ?a2 ?l2 ?c2 ?k2 ?a3 ?l3 ?c3 ?k3 ?a4 ?l4 ?c4 ?k4 ?a5 ?l5 ?c5 ?k5 ?a6 ?l6 ?c6 ?k6 ?a7 ?l7 ?c7 ?k7 ?a8 ?l8 ?c8 ?k8 ?a9 ?l9 ?c9 ?k9 ?a10 ?l10 ?c10 ?k10 ?a11 ?l11 ?c11 ?k11 ?a12 ?l12 ?c12 ?k12 ?a13 ?l13 ?c13 ?k13 ?a14 ?l14 ?c14 ?k14 ?a15 ?l15 ?c15 ?k15 ?a16 ?l16 ?c16 ?k16 ?a17 ?l17 ?c17 ?k17 ?a18 ?l18 ?c18 ?k18 ?a19 ?l19 ?c19 ?k19 ?a20 ?l20 ?c20 ?k20 ?a21 ?l21 ?c21 ?k21 ?a22 ?l22 ?c22 ?k22 ?a23 ?l23 ?c23 ?k23 ?a24 ?l24 ?c24 ?k24 ?a25 ?l25 ?c25 ?k25 ?z_abs ?z_all ?z_bool ?z_divmod ?z_int ?z_isinstance ?z_len ?z_list ?z_max ?z_min ?z_range ?z_repr ?z_str ?z_sum ?z_tuple ?z_zip ?v_MOST_LOAD ?v_MOST_PAPERS ?v_MOST_PEOPLE ?v_MOST_WANTS
    (case a0 => k_is); (case l0 => k_is); (case c0 => k_is); (case k0 => k_is); (case a1 => k_is); (case l1 => k_is); (case c1 => k_is); (case k1 => k_is); (case a2 => k_is); (case l2 => k_is); (case c2 => k_is); (case k2 => k_is); (case a3 => k_is); (case l3 => k_is); (case c3 => k_is); (case k3 => k_is); (case a4 => k_is); (case l4 => k_is); (case c4 => k_is); (case k4 => k_is); (case a5 => k_is); (case l5 => k_is); (case c5 => k_is); (case k5 => k_is); (case a6 => k_is); (case l6 => k_is); (case c6 => k_is); (case k6 => k_is); (case a7 => k_is); (case l7 => k_is); (case c7 => k_is); (case k7 => k_is); (case a8 => k_is); (case l8 => k_is); (case c8 => k_is); (case k8 => k_is); (case a9 => k_is); (case l9 => k_is); (case c9 => k_is); (case k9 => k_is); (case a10 => k_is); (case l10 => k_is); (case c10 => k_is); (case k10 => k_is); (case a11 => k_is); (case l11 => k_is); (case c11 => k_is); (case k11 => k_is); (case a12 => k_is); (case l12 => k_is); (case c12 => k_is); (case k12 => k_is); (case a13 => k_is); (case l13 => k_is); (case c13 => k_is); (case k13 => k_is); (case a14 => k_is); (case l14 => k_is); (case c14 => k_is); (case k14 => k_is); (case a15 => k_is); (case l15 => k_is); (case c15 => k_is); (case k15 => k_is); (case a16 => k_is); (case l16 => k_is); (case c16 => k_is); (case k16 => k_is); (case a17 => k_is); (case l17 => k_is); (case c17 => k_is); (case k17 => k_is); (case a18 => k_is); (case l18 => k_is); (case c18 => k_is); (case k18 => k_is); (case a19 => k_is); (case l19 => k_is); (case c19 => k_is); (case k19 => k_is); (case a20 => k_is); (case l20 => k_is); (case c20 => k_is); (case k20 => k_is); (case a21 => k_is); (case l21 => k_is); (case c21 => k_is); (case k21 => k_is); (case a22 => k_is); (case l22 => k_is); (case c22 => k_is); (case k22 => k_is); (case a23 => k_is); (case l23 => k_is); (case c23 => k_is); (case k23 => k_is); (case a24 => k_is); (case l24 => k_is); (case c24 => k_is); (case k24 => k_is); (case a25 => k_is); (case l25 => k_is); (case c25 => k_is); (case k25 => k_is); (case z_abs => k_is); (case z_all => k_is); (case z_bool => k_is); (case z_divmod => k_is); (case z_int => k_is); (case z_isinstance => k_is); (case z_len => k_is); (case z_list => k_is); (case z_max => k_is); (case z_min => k_is); (case z_range => k_is); (case z_repr => k_is); (case z_str => k_is); (case z_sum => k_is); (case z_tuple => k_is); (case z_zip => k_is); (case v_MOST_LOAD => k_is); (case v_MOST_PAPERS => k_is); (case v_MOST_PEOPLE => k_is); (case v_MOST_WANTS => k_is)
